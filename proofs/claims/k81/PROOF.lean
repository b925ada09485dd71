import PyProof.Rows.All
import HandS.ForMost
import HandS.IsInst
import HandS.TupAny
import HandS.TupMul
import HandS.Exc
import HandS.ExcOwn
import HandS.CallSlots
import HandS.WordsExc
import HandS.Walk
import PyProof.EqKinds
import PyProof.FactsAll.dict
import HandS.Wide
import KE.GoesMore
import PyProof.EnumMake
import HandS.Small
import PySem.Challenge.RW_dealcourt_k81_programs_known
set_option linter.all false
/-! DCore: a small language of values (D), cells, expressions (CE) and statements (CS), and its evaluator. Pure Lean. -/
namespace DC
open PySem (Str)
abbrev Key := Sum Int Str

inductive D where
  | non | bl (b : Bool) | int (i : Int) | str (x : Str)
  | tup (ds : List D) | lst (ds : List D) | dct (ks : List Key) (vs : List D)
  | scr (ds : List D) | ref (n : Nat)
  deriving Inhabited

inductive Cell where
  | lst (ds : List D) | dct (ks : List Key) (vs : List D) | ins (c : Nat) (fs : List (Str × D))
  deriving Inhabited

inductive Slot where
  | no | val (d : D) | own (c : Cell)
  deriving Inhabited

structure Exn where
  c : Nat
  fs : List (Str × D)

inductive Res (α : Type) where
  | ok (a : α) (h : List Cell) | exc (e : Exn) (h : List Cell)
abbrev Out (α : Type) := Option (Res α)
def bnd {α β : Type} (m : Out α) (f : α → List Cell → Out β) : Out β :=
  match m with
  | some (.ok a h) => f a h
  | some (.exc e h) => some (.exc e h)
  | none => none
/-- a value of no effect -/
def liftO {α : Type} (m : Option α) (h : List Cell) : Out α :=
  match m with
  | some a => some (.ok a h)
  | none => none
/-- no exception may come out -/
def calmO {α : Type} (m : Out α) : Out α :=
  match m with
  | some (.ok a h) => some (.ok a h)
  | _ => none
abbrev maxLen : Nat := 16777216

inductive Op where
  | add | sub | mul | fdiv | mod
  deriving DecidableEq
inductive Cm where
  | eq | ne | lt | le | gt | ge | isin | notin | isN | notN
  deriving DecidableEq
inductive Ty where
  | str | int | bool | tuple | list | dict
  deriving DecidableEq
inductive B1 where
  | len | all | any | abs | int | str | tuple | list | max | min | sum
  deriving DecidableEq
inductive B2 where
  | max | min
  deriving DecidableEq
/-- methods of built-in types that change nothing -/
inductive Bm where
  | join
  deriving DecidableEq
inductive ItK where
  | seq | range1 | range2 | enum | text
  deriving DecidableEq
inductive Tg where
  | one (i : Nat) | tup (is : List Nat)
  deriving DecidableEq

inductive CE where
  | c (d : D) | v (i : Nat) | pk (i : Nat) | g (i : Nat) | no
  | bin (o : Op) (a b : CE) | neg (a : CE)
  | cmp (o : Cm) (a b : CE) | chain (o o' : Cm) (a b c : CE)
  | and (a b : CE) | or (a b : CE) | not (a : CE)
  | ite (t a b : CE)
  | isi (t : Ty) (a : CE)
  | b1 (f : B1) (a : CE) | b2 (f : B2) (a b : CE)
  | bm (f : Bm) (o a : CE)
  | call (f : Nat) (as : List CE)
  | ix (a i : CE) | sl (a lo hi : CE)
  | tup (as : List CE) | lst (as : List CE) | dct (ks : List Key) (as : List CE)
  | lc (k : ItK) (srcs : List CE) (tg : Tg) (own : List Nat) (cond elt : CE)
  | new (a : CE)
  deriving Inhabited

inductive CS where
  | asg (i : Nat) (e : CE) | own (i : Nat) (e : CE) | frz (i : Nat)
  | utup (is : List Nat) (e : CE)
  | stIx (o i e : CE)
  | aug (i : Nat) (e : CE)
  | app (i : Nat) (e : CE)
  | ex (e : CE) | ret (e : CE) | retN | pass
  | ite (t : CE) (a b : List CS)
  | for_ (k : ItK) (srcs : List CE) (tg : Tg) (body : List CS)
  deriving Inhabited

def isNo : CE → Bool
  | .no => true
  | _ => false
structure Fn where
  ar : Nat
  ns : Nat
  body : List CS

structure Tb where
  fn : Nat → Option Fn
  glob : Nat → Option D

def Cell.toD : Cell → D
  | .lst ds => .lst ds
  | .dct ks vs => .dct ks vs
  | .ins _ _ => .non

mutual
def D.depth : D → Nat
  | .tup ds => depthL ds + 1
  | .lst ds => depthL ds + 1
  | .dct _ vs => depthL vs + 1
  | .scr ds => depthL ds + 1
  | _ => 0
def depthL : List D → Nat
  | [] => 0
  | d :: ds => max d.depth (depthL ds)
end
/-! ### equality -/
def b2i (b : Bool) : Int := if b then 1 else 0
mutual
/-- x == y; none: not told here (two dicts, an object) -/
def eqD : D → D → Option Bool
  | .non, .non => some true
  | .non, .ref _ => none
  | .non, .scr _ => none
  | .non, _ => some false
  | .bl a, .bl b => some (a == b)
  | .bl a, .int b => some (b2i a == b)
  | .bl _, .ref _ => none
  | .bl _, .scr _ => none
  | .bl _, _ => some false
  | .int a, .bl b => some (a == b2i b)
  | .int a, .int b => some (a == b)
  | .int _, .ref _ => none
  | .int _, .scr _ => none
  | .int _, _ => some false
  | .str a, .str b => some (a == b)
  | .str _, .ref _ => none
  | .str _, .scr _ => none
  | .str _, _ => some false
  | .tup as, .tup bs => (eqZ as bs).map fun e => e && as.length == bs.length
  | .tup _, .ref _ => none
  | .tup _, .scr _ => none
  | .tup _, _ => some false
  | .lst as, .lst bs => if as.length = bs.length then eqZ as bs else some false
  | .lst _, .ref _ => none
  | .lst _, .scr _ => none
  | .lst _, _ => some false
  | .dct _ _, .dct _ _ => none
  | .dct _ _, .ref _ => none
  | .dct _ _, .scr _ => none
  | .dct _ _, _ => some false
  | .ref _, _ => none
  | .scr _, _ => none
def eqZ : List D → List D → Option Bool
  | a :: as, b :: bs => match eqD a b, eqZ as bs with
    | some x, some y => some (x && y)
    | _, _ => none
  | _, _ => some true
end
/-- some item of ys is equal to x -/
def inL (x : D) : List D → Option Bool
  | [] => some false
  | y :: ys => match eqD y x, inL x ys with
    | some a, some b => some (a || b)
    | _, _ => none

def seqOf (h : List Cell) : D → Option (List D)
  | .tup ds => some ds
  | .lst ds => some ds
  | .scr ds => some ds
  | .ref n => match h[n]? with
    | some (.lst ds) => some ds
    | _ => none
  | _ => none
/-- a list (no tuple) -/
def lstOf (h : List Cell) : D → Option (List D)
  | .lst ds => some ds
  | .ref n => match h[n]? with
    | some (.lst ds) => some ds
    | _ => none
  | _ => none
def fits (n : Nat) : Bool := decide (n ≤ maxLen)

def strCat (x y : Str) : Option D := if x.length + y.length ≤ maxLen then some (.str (x ++ y)) else none
def strRep (x : Str) (k : Int) : Option D := if 1 ≤ k ∧ k ≤ 1000 ∧ x.length ≤ 1000 then some (.str ⟨((List.replicate k.toNat x.cps.toList).flatten).toArray⟩) else none
def intFits (i : Int) : Bool := decide (-(2 ^ 64) < i) && decide (i < 2 ^ 64)
def addD (h : List Cell) : D → D → Option D
  | .int i, .int j => some (.int (i + j))
  | .str x, .str y => strCat x y
  | .tup as, .tup bs => if as.length + bs.length ≤ maxLen then some (.tup (as ++ bs)) else none
  | x, y => match lstOf h x, lstOf h y with
    | some as, some bs => if as.length + bs.length ≤ maxLen then some (.lst (as ++ bs)) else none
    | _, _ => none
def mulD (h : List Cell) : D → D → Option D
  | .int i, .int j => if intFits i || intFits j then some (.int (i * j)) else none
  | .str x, .int k => strRep x k
  | .tup as, .int k => if as.length ≤ 1000 ∧ 1 ≤ k ∧ k ≤ 1000 then some (.tup ((List.replicate k.toNat as).flatten)) else none
  | _, _ => none
def binD (o : Op) (h : List Cell) (x y : D) : Option D :=
  match o with
  | .add => addD h x y
  | .mul => mulD h x y
  | .sub => match x, y with
    | .int i, .int j => some (.int (i - j))
    | _, _ => none
  | .mod => match x, y with
    | .int i, .int j => if 0 < j then some (.int (i % j)) else none
    | _, _ => none
  | .fdiv => match x, y with
    | .int i, .int j => if 0 < j ∧ j < 2 ^ 64 then some (.int (i / j)) else none
    | _, _ => none
def eqH (h : List Cell) (x y : D) : Option Bool :=
  if min x.depth y.depth ≤ 100 then eqD x y else none
def inH (h : List Cell) (x y : D) : Option Bool :=
  match y with
  | .str z => match x with
    | .str a => match a.cps.toList with
      | [c] => some (decide (c ∈ z.cps.toList))
      | _ => none
    | _ => none
  | y => match seqOf h y with
    | some ys => if min x.depth (depthL ys) ≤ 100 then inL x ys else none
    | none => none
/-- x != y, of flat things -/
def neD : D → D → Option Bool
  | .bl a, .bl b => some (!(a == b))
  | .int a, .int b => some (!(a == b))
  | .str a, .str b => some (!(a == b))
  | .non, .non => some false
  | .non, .int _ => some true
  | .int _, .non => some true
  | .non, .str _ => some true
  | .str _, .non => some true
  | _, _ => none
def cmpD (o : Cm) (h : List Cell) (x y : D) : Option D :=
  match o with
  | .eq => (eqH h x y).map fun b => .bl b
  | .ne => (neD x y).map fun b => .bl b
  | .isin => (inH h x y).map fun b => .bl b
  | .notin => (inH h x y).map fun b => .bl (!b)
  | .lt => match x, y with
    | .int i, .int j => some (.bl (decide (i < j)))
    | _, _ => none
  | .le => match x, y with
    | .int i, .int j => some (.bl (decide (i ≤ j)))
    | _, _ => none
  | .gt => match x, y with
    | .int i, .int j => some (.bl (decide (j < i)))
    | _, _ => none
  | .ge => match x, y with
    | .int i, .int j => some (.bl (decide (j ≤ i)))
    | _, _ => none
  | .isN => match y with
    | .non => match x with
      | .non => some (.bl true)
      | _ => some (.bl false)
    | _ => none
  | .notN => match y with
    | .non => match x with
      | .non => some (.bl false)
      | _ => some (.bl true)
    | _ => none
/-- isinstance(x, t) -/
def isiD (t : Ty) (h : List Cell) : D → Option Bool
  | .non => some false
  | .bl _ => some (t == .bool || t == .int)
  | .int _ => some (t == .int)
  | .str _ => some (t == .str)
  | .tup _ => some (t == .tuple)
  | .lst _ => some (t == .list)
  | .dct _ _ => some (t == .dict)
  | .scr _ => some (t == .list)
  | .ref n => match h[n]? with
    | some (.lst _) => some (t == .list)
    | some (.dct _ _) => some (t == .dict)
    | _ => none
def blsOf : List D → Option (List Bool)
  | [] => some []
  | .bl b :: ds => (blsOf ds).map (b :: ·)
  | _ => none
def intsOf : List D → Option (List Int)
  | [] => some []
  | .int b :: ds => (intsOf ds).map (b :: ·)
  | _ => none
def strsOf : List D → Option (List Str)
  | [] => some []
  | .str b :: ds => (strsOf ds).map (b :: ·)
  | _ => none
def maxL : List Int → Option Int
  | [] => none
  | [a] => some a
  | a :: r => (maxL r).map fun m => if m ≤ a then a else m
def minL : List Int → Option Int
  | [] => none
  | [a] => some a
  | a :: r => (minL r).map fun m => if a ≤ m then a else m
def b1D (f : B1) (h : List Cell) (x : D) : Option D :=
  match f with
  | .len => match x with
    | .str z => some (.int z.length)
    | x => (seqOf h x).map fun ds => .int ds.length
  | .all => (lstOf h x).bind fun ds => (blsOf ds).map fun bs => .bl (bs.all id)
  | .any => (lstOf h x).bind fun ds => (blsOf ds).map fun bs => .bl (bs.any id)
  | .abs => match x with
    | .int i => some (.int (if i < 0 then -i else i))
    | _ => none
  | .int => match x with
    | .int i => some (.int i)
    | .bl b => some (.int (if b then 1 else 0))
    | _ => none
  | .str => match x with
    | .int i => if 0 ≤ i ∧ i < 1000000000000000 then some (.str (toString i : String)) else none
    | _ => none
  | .tuple => (seqOf h x).map .tup
  | .list => (seqOf h x).map .lst
  | .max => (lstOf h x).bind fun ds => (intsOf ds).bind fun ns => (maxL ns).map .int
  | .min => (lstOf h x).bind fun ds => (intsOf ds).bind fun ns => (minL ns).map .int
  | .sum => (lstOf h x).bind fun ds => (intsOf ds).map fun ns => .int ns.sum
def b2D (f : B2) (x y : D) : Option D :=
  match x, y with
  | .int i, .int j => match f with
    | .max => some (.int (if j > i then j else i))
    | .min => some (.int (if j < i then j else i))
  | _, _ => none
def bmD (f : Bm) (h : List Cell) (o x : D) : Option D :=
  match f with
  | .join => match o with
    | .str z => (seqOf h x).bind fun ds => (strsOf ds).bind fun ss => if (ss.map (·.length)).sum + ss.length * z.length ≤ maxLen then some (.str (PySem.Txt.join z ss)) else none
    | _ => none
def keyOf : D → Option Key
  | .int i => some (.inl i)
  | .str x => some (.inr x)
  | _ => none
def dgetL : List Key → List D → Key → Option D
  | k' :: ks, x :: xs, k => if k' = k then some x else dgetL ks xs k
  | _, _, _ => none
def dputL : List Key → List D → Key → D → List D
  | k' :: ks, x :: xs, k, d => (if k' = k then d else x) :: dputL ks xs k d
  | _, _, _, _ => []
def hasK (ks : List Key) (k : Key) : Bool := ks.any fun k' => decide (k' = k)
/-- a dict that is read -/
def dctOf (h : List Cell) : D → Option (List Key × List D)
  | .dct ks xs => some (ks, xs)
  | .ref n => match h[n]? with
    | some (.dct ks xs) => some (ks, xs)
    | _ => none
  | _ => none
def ixD (h : List Cell) (x i : D) : Option D :=
  match dctOf h x with
  | some (ks, xs) => (keyOf i).bind fun k => dgetL ks xs k
  | none => match i with
    | .int k => match x with
      | .str z => (L2.atI z.cps.toList k).map fun c => .str ⟨#[c]⟩
      | x => (seqOf h x).bind fun ds => L2.atI ds k
    | _ => none
/-- a bound of a slice; left out: the first is true -/
def boundC : Bool → D → Option (Option Int)
  | true, _ => some none
  | false, .int i => some (some i)
  | _, _ => none
/-- xs[lo:hi] -/
def cut {α : Type} (xs : List α) (lo hi : Option Int) : List α := (xs.drop (HT.sIx xs.length 0 lo)).take (HT.sIx xs.length xs.length hi - HT.sIx xs.length 0 lo)
def slI (h : List Cell) (x : D) (lo hi : Option Int) : Option D :=
  match x with
  | .str z => some (.str ⟨(cut z.cps.toList lo hi).toArray⟩)
  | .tup ds => some (.tup (cut ds lo hi))
  | x => (lstOf h x).map fun ds => .lst (cut ds lo hi)
def negD : D → Option D
  | .int i => some (.int (-i))
  | _ => none
def wipeOk (Γ : List Slot) (own : List Nat) : Bool := own.all fun i => match Γ[i]? with
  | some (.own _) => false
  | _ => true
/-- what a for or a comprehension walks -/
def itemsOf (k : ItK) (h : List Cell) (ds : List D) : Option (List D) :=
  match k, ds with
  | .seq, [.tup ds] => some ds
  | .seq, [.lst ds] => some ds
  | .seq, [.scr ds] => some ds
  | .range1, [.int n] => if -1000000 ≤ n ∧ n ≤ 1000000 then some ((List.range n.toNat).map fun (i : Nat) => .int (i : Int)) else none
  | .range2, [.int m, .int n] => if -1000000 ≤ m ∧ m ≤ 1000000 ∧ -1000000 ≤ n ∧ n ≤ 1000000 then some ((List.range (n - m).toNat).map fun (i : Nat) => .int (m + (i : Int))) else none
  | .enum, [.tup ds] => some (ds.mapIdx fun i d => .tup [.int i, d])
  | .enum, [.lst ds] => some (ds.mapIdx fun i d => .tup [.int i, d])
  | .text, [.str z] => some (z.cps.toList.map fun c => .str ⟨#[c]⟩)
  | _, _ => none
def setAll : List Nat → List D → List Slot → Option (List Slot)
  | [], [], Γ => some Γ
  | i :: is, d :: ds, Γ => setAll is ds (Γ.set i (.val d))
  | _, _, _ => none
def setTg (t : Tg) (d : D) (Γ : List Slot) : Option (List Slot) :=
  match t with
  | .one i => some (Γ.set i (.val d))
  | .tup is => match d with
    | .tup ds => setAll is ds Γ
    | _ => none
def wipeS (Γ : List Slot) : List Nat → List Slot
  | [] => Γ
  | i :: is => (wipeS Γ is).set i .no
/-- a comprehension's loop -/
def lcL (f : D → List Cell → Out (Option D)) : List D → List Cell → Out (List D)
  | [], h => some (.ok [] h)
  | d :: ds, h => bnd (f d h) fun y h1 => bnd (lcL f ds h1) fun ys h2 => some (.ok (match y with | some y => y :: ys | none => ys) h2)
def newCell (h : List Cell) : D → Out D
  | .lst ds => some (.ok (.ref h.length) (h ++ [.lst ds]))
  | .dct ks vs => some (.ok (.ref h.length) (h ++ [.dct ks vs]))
  | _ => none
abbrev Call := Nat → List D → List Cell → Out D

mutual
def evalE (T : Tb) (call : Call) : CE → List Slot → List Cell → Out D
  | .c d, _, h => some (.ok d h)
  | .v i, Γ, h => match Γ[i]? with
    | some (.val d) => some (.ok d h)
    | _ => none
  | .pk i, Γ, h => match Γ[i]? with
    | some (.own c) => some (.ok c.toD h)
    | _ => none
  | .g i, _, h => liftO (T.glob i) h
  | .no, _, h => some (.ok .non h)
  | .bin o a b, Γ, h => bnd (evalE T call a Γ h) fun x h => bnd (evalE T call b Γ h) fun y h => liftO (binD o h x y) h
  | .neg a, Γ, h => bnd (evalE T call a Γ h) fun x h => liftO (negD x) h
  | .cmp o a b, Γ, h => bnd (evalE T call a Γ h) fun x h => bnd (evalE T call b Γ h) fun y h => liftO (cmpD o h x y) h
  | .chain o o' a b c, Γ, h => bnd (evalE T call a Γ h) fun x h => bnd (evalE T call b Γ h) fun y h => match cmpD o h x y with
    | some (.bl true) => bnd (evalE T call c Γ h) fun z h => liftO (cmpD o' h y z) h
    | some (.bl false) => some (.ok (.bl false) h)
    | _ => none
  | .and a b, Γ, h => bnd (evalE T call a Γ h) fun x h => match x with
    | .bl true => evalE T call b Γ h
    | .bl false => some (.ok (.bl false) h)
    | _ => none
  | .or a b, Γ, h => bnd (evalE T call a Γ h) fun x h => match x with
    | .bl true => some (.ok (.bl true) h)
    | .bl false => evalE T call b Γ h
    | _ => none
  | .not a, Γ, h => bnd (evalE T call a Γ h) fun x h => match x with
    | .bl b => some (.ok (.bl (!b)) h)
    | _ => none
  | .ite t a b, Γ, h => bnd (evalE T call t Γ h) fun x h => match x with
    | .bl true => evalE T call a Γ h
    | .bl false => evalE T call b Γ h
    | _ => none
  | .isi t a, Γ, h => bnd (evalE T call a Γ h) fun x h => liftO ((isiD t h x).map .bl) h
  | .b1 f a, Γ, h => bnd (evalE T call a Γ h) fun x h => liftO (b1D f h x) h
  | .b2 f a b, Γ, h => bnd (evalE T call a Γ h) fun x h => bnd (evalE T call b Γ h) fun y h => liftO (b2D f x y) h
  | .bm f a b, Γ, h => bnd (evalE T call a Γ h) fun x h => bnd (evalE T call b Γ h) fun y h => liftO (bmD f h x y) h
  | .call f as, Γ, h => bnd (evalEs T call as Γ h) fun xs h => call f xs h
  | .ix a b, Γ, h => bnd (evalE T call a Γ h) fun x h => bnd (evalE T call b Γ h) fun y h => liftO (ixD h x y) h
  | .sl a lo hi, Γ, h => bnd (evalE T call a Γ h) fun x h => bnd (evalE T call lo Γ h) fun l h => match boundC (isNo lo) l with
    | some l => bnd (evalE T call hi Γ h) fun u h => match boundC (isNo hi) u with
      | some u => liftO (slI h x l u) h
      | none => none
    | none => none
  | .tup as, Γ, h => bnd (evalEs T call as Γ h) fun xs h => if xs.length ≤ maxLen then some (.ok (.tup xs) h) else none
  | .lst as, Γ, h => bnd (evalEs T call as Γ h) fun xs h => if xs.length ≤ maxLen then some (.ok (.lst xs) h) else none
  | .dct ks as, Γ, h => bnd (evalEs T call as Γ h) fun xs h => some (.ok (.dct ks xs) h)
  | .lc k srcs tg own cond elt, Γ, h => bnd (evalEs T call srcs Γ h) fun ds h => match itemsOf k h ds, wipeOk Γ own with
    | some its, true => bnd (calmO (lcL (fun d h => match setTg tg d (wipeS Γ own) with
        | some Γ' => bnd (evalE T call cond Γ' h) fun b h => match b with
          | .bl true => bnd (evalE T call elt Γ' h) fun y h => some (.ok (some y) h)
          | .bl false => some (.ok none h)
          | _ => none
        | none => none) its h)) fun ys h => if ys.length ≤ maxLen then some (.ok (.lst ys) h) else none
    | _, _ => none
  | .new a, Γ, h => bnd (evalE T call a Γ h) fun x h => newCell h x
def evalEs (T : Tb) (call : Call) : List CE → List Slot → List Cell → Out (List D)
  | [], _, h => some (.ok [] h)
  | a :: as, Γ, h => bnd (evalE T call a Γ h) fun x h => bnd (evalEs T call as Γ h) fun xs h => some (.ok (x :: xs) h)
end

inductive SRes where
  | nx (Γ : List Slot) (h : List Cell) | brk (Γ : List Slot) (h : List Cell) | cont (Γ : List Slot) (h : List Cell)
  | ret (d : D) (h : List Cell) | exc (e : Exn) (Γ : List Slot) (h : List Cell)
abbrev OutS := Option SRes
def bndS {α : Type} (Γ : List Slot) (m : Out α) (f : α → List Cell → OutS) : OutS :=
  match m with
  | some (.ok a h) => f a h
  | some (.exc e h) => some (.exc e Γ h)
  | none => none
def thenS (m : OutS) (f : List Slot → List Cell → OutS) : OutS :=
  match m with
  | some (.nx Γ h) => f Γ h
  | m => m
/-- a for's loop -/
def forL (f : D → List Slot → List Cell → OutS) : List D → List Slot → List Cell → OutS
  | [], Γ, h => some (.nx Γ h)
  | d :: ds, Γ, h => match f d Γ h with
    | some (.nx Γ h) => forL f ds Γ h
    | some (.cont Γ h) => forL f ds Γ h
    | some (.brk Γ h) => some (.nx Γ h)
    | m => m
def putCell (c : Cell) (i e : D) : Option Cell :=
  match c with
  | .lst ds => match i with
    | .int k => (L2.ixN ds.length k).map fun j => .lst (ds.set j e)
    | _ => none
  | .dct ks xs => match keyOf i with
    | some k => if ks.length < maxLen then some (if hasK ks k then .dct ks (dputL ks xs k e) else .dct (ks ++ [k]) (xs ++ [e])) else none
    | none => none
  | _ => none
def stIxD (h : List Cell) (o i e : D) : Option (List Cell) :=
  match o with
  | .ref n => match h[n]? with
    | some c => (putCell c i e).map fun c => h.set n c
    | none => none
  | _ => none
mutual
def execS (T : Tb) (call : Call) : CS → List Slot → List Cell → OutS
  | .asg i e, Γ, h => bndS Γ (evalE T call e Γ h) fun x h => some (.nx (Γ.set i (.val x)) h)
  | .own i e, Γ, h => bndS Γ (evalE T call e Γ h) fun x h => match x with
    | .lst ds => some (.nx (Γ.set i (.own (.lst ds))) h)
    | .dct ks vs => some (.nx (Γ.set i (.own (.dct ks vs))) h)
    | _ => none
  | .frz i, Γ, h => match Γ[i]? with
    | some (.own c) => some (.nx (Γ.set i (.val c.toD)) h)
    | _ => none
  | .utup is e, Γ, h => bndS Γ (evalE T call e Γ h) fun x h => match x with
    | .tup ds => match setAll is ds Γ with
      | some Γ => some (.nx Γ h)
      | none => none
    | _ => none
  | .stIx o i e, Γ, h => bndS Γ (evalE T call e Γ h) fun x h => bndS Γ (evalE T call o Γ h) fun y h => bndS Γ (evalE T call i Γ h) fun z h => match stIxD h y z x with
    | some h => some (.nx Γ h)
    | none => none
  | .aug i e, Γ, h => match Γ[i]? with
    | some (.val x) => bndS Γ (evalE T call e Γ h) fun y h => match x, y with
      | .int a, .int b => some (.nx (Γ.set i (.val (.int (a + b)))) h)
      | _, _ => none
    | _ => none
  | .app i e, Γ, h => match Γ[i]? with
    | some (.own (.lst ds)) => bndS Γ (evalE T call e Γ h) fun y h => if ds.length < maxLen then some (.nx (Γ.set i (.own (.lst (ds ++ [y])))) h) else none
    | _ => none
  | .ex e, Γ, h => bndS Γ (evalE T call e Γ h) fun _ h => some (.nx Γ h)
  | .ret e, Γ, h => bndS Γ (evalE T call e Γ h) fun x h => some (.ret x h)
  | .retN, _, h => some (.ret .non h)
  | .pass, Γ, h => some (.nx Γ h)
  | .ite t a b, Γ, h => bndS Γ (evalE T call t Γ h) fun x h => match x with
    | .bl true => execSs T call a Γ h
    | .bl false => execSs T call b Γ h
    | _ => none
  | .for_ k srcs tg body, Γ, h => bndS Γ (evalEs T call srcs Γ h) fun ds h => match itemsOf k h ds with
    | some its => forL (fun d Γ h => match setTg tg d Γ with
        | some Γ => execSs T call body Γ h
        | none => none) its Γ h
    | none => none
def execSs (T : Tb) (call : Call) : List CS → List Slot → List Cell → OutS
  | [], Γ, h => some (.nx Γ h)
  | s :: ss, Γ, h => thenS (execS T call s Γ h) fun Γ h => execSs T call ss Γ h
end
/-- a def's call; n: how many calls may stand in one another -/
def callN (T : Tb) : Nat → Call
  | 0, _, _, _ => none
  | n + 1, f, ds, h => match T.fn f with
    | some F => if ds.length = F.ar then match execSs T (callN T n) F.body (ds.map .val ++ List.replicate (F.ns - F.ar) .no) h with
        | some (.ret d h) => some (.ok d h)
        | some (.nx _ h) => some (.ok .non h)
        | some (.exc e _ h) => some (.exc e h)
        | _ => none
      else none
    | none => none
end DC

set_option linter.all false
set_option Elab.async false
/-! DSim: how values, cells and slots of the small language lie in the hand layer's heap. -/
namespace DC
open PySem L2

theorem sl_eq : (sizeLine : Nat) = maxLen := sizeLine_eq
theorem Same.t {K : PySem.W.Frag} {H H' : Hp} {a : Addr} {xs : List V} (e : Same H H') (h : SqT K H a xs) : SqT K H' a xs := by
  rcases h with (h | ⟨o, h⟩) | h
  · exact .inl (.inl (e _ _ h))
  · exact .inl (.inr ⟨o, e _ _ h⟩)
  · exact .inr h
theorem Same.new {H : Hp} {p : Addr} {o : HO} (h : H p = none) : Same H (upd H p o) := fun a u e => by
  rw [upd_ne (ne_of_none e h)]
  exact e

section
variable (K : PySem.W.Frag) (G : Hp) (μ : List Addr)
mutual
def RD : D → V → Prop
  | .non, v => v = .non
  | .bl b, v => v = .bl b
  | .int i, v => v = .int i
  | .str x, v => v = .str x ∧ x.length ≤ maxLen
  | .tup ds, v => ∃ a vs, v = .ref a ∧ SqT K G a vs ∧ ds.length ≤ maxLen ∧ RDs ds vs
  | .lst ds, v => ∃ a vs, v = .ref a ∧ G a = some (.lst vs) ∧ ds.length ≤ maxLen ∧ RDs ds vs
  | .dct ks xs, v => ∃ a kvs, v = .ref a ∧ G a = some (.dK kvs) ∧ kvs.map (·.1) = ks ∧ RDs xs (kvs.map (·.2))
  | .scr ds, v => ∃ a vs, v = .ref a ∧ SqL K G a vs ∧ ds.length ≤ maxLen ∧ RDs ds vs
  | .ref n, v => ∃ a, v = .ref a ∧ μ[n]? = some a
def RDs : List D → List V → Prop
  | [], vs => vs = []
  | d :: ds, vs => ∃ v r, vs = v :: r ∧ RD d v ∧ RDs ds r
end
def CellAt (H : Hp) (a : Addr) : Cell → Prop
  | .lst ds => ∃ vs, H a = some (.lst vs) ∧ ds.length ≤ maxLen ∧ RDs K G μ ds vs
  | .dct ks xs => ∃ kvs, H a = some (.dK kvs) ∧ kvs.map (·.1) = ks ∧ RDs K G μ xs (kvs.map (·.2))
  | .ins _ _ => False
end
section
variable {K : PySem.W.Frag} {G G' : Hp} {μ μ' : List Addr}
theorem RDs.len : ∀ {ds : List D} {vs : List V}, RDs K G μ ds vs → ds.length = vs.length
  | [], vs, h => by
    have h' : vs = [] := h
    subst h'
    rfl
  | d :: ds, vs, h => by
    obtain ⟨v, r, rfl, _, q⟩ := h
    simp [RDs.len q]
theorem RDs.at : ∀ {ds : List D} {vs : List V} {i : Nat} {d : D}, RDs K G μ ds vs → ds[i]? = some d → ∃ v, vs[i]? = some v ∧ RD K G μ d v
  | [], vs, i, d, _, e => by simp at e
  | d :: ds, vs, 0, d', h, e => by
    obtain ⟨v, r, rfl, q, _⟩ := h
    simp at e
    subst e
    exact ⟨v, rfl, q⟩
  | d :: ds, vs, i + 1, d', h, e => by
    obtain ⟨v, r, rfl, _, q⟩ := h
    obtain ⟨v', e1, e2⟩ := RDs.at (i := i) q (by simpa using e)
    exact ⟨v', by simpa using e1, e2⟩
theorem RDs.mk : ∀ {ds : List D} {vs : List V}, ds.length = vs.length → (∀ (i : Nat) (d : D) (v : V), ds[i]? = some d → vs[i]? = some v → RD K G μ d v) → RDs K G μ ds vs
  | [], vs, hl, h => by
    cases vs with
    | nil => rfl
    | cons a b => simp at hl
  | d :: ds, vs, hl, h => by
    cases vs with
    | nil => simp at hl
    | cons v r => exact ⟨v, r, rfl, h 0 d v rfl rfl, RDs.mk (by simpa using hl) fun i d' v' e1 e2 => h (i + 1) d' v' (by simpa using e1) (by simpa using e2)⟩
theorem RDs.get2 {ds : List D} {vs : List V} {i : Nat} {d : D} {v : V} (h : RDs K G μ ds vs) (e : ds[i]? = some d) (e' : vs[i]? = some v) : RD K G μ d v := by
  obtain ⟨v', e1, r⟩ := h.at e
  rw [e'] at e1
  cases e1
  exact r
theorem RDs.nil : RDs K G μ [] [] := rfl
theorem RDs.cons {d : D} {ds : List D} {v : V} {vs : List V} (h : RD K G μ d v) (t : RDs K G μ ds vs) : RDs K G μ (d :: ds) (v :: vs) := ⟨v, vs, rfl, h, t⟩
theorem RDs.app : ∀ {ds es : List D} {vs ws : List V}, RDs K G μ ds vs → RDs K G μ es ws → RDs K G μ (ds ++ es) (vs ++ ws)
  | [], es, vs, ws, h, t => by
    have h' : vs = [] := h
    subst h'
    exact t
  | d :: ds, es, vs, ws, h, t => by
    obtain ⟨v, r, rfl, q, q'⟩ := h
    exact ⟨v, r ++ ws, rfl, q, RDs.app q' t⟩
theorem RDs.snoc {d : D} {ds : List D} {v : V} {vs : List V} (t : RDs K G μ ds vs) (h : RD K G μ d v) : RDs K G μ (ds ++ [d]) (vs ++ [v]) := t.app (.cons h .nil)
theorem RDs.drop : ∀ {ds : List D} {vs : List V} (n : Nat), RDs K G μ ds vs → RDs K G μ (ds.drop n) (vs.drop n)
  | _, _, 0, h => by simpa using h
  | [], vs, n + 1, h => by
    have h' : vs = [] := h
    subst h'
    rfl
  | d :: ds, vs, n + 1, h => by
    obtain ⟨v, r, rfl, _, q⟩ := h
    simpa using RDs.drop n q
theorem RDs.take : ∀ {ds : List D} {vs : List V} (n : Nat), RDs K G μ ds vs → RDs K G μ (ds.take n) (vs.take n)
  | _, _, 0, h => by simp [RDs]
  | [], vs, n + 1, h => by
    have h' : vs = [] := h
    subst h'
    rfl
  | d :: ds, vs, n + 1, h => by
    obtain ⟨v, r, rfl, q, q'⟩ := h
    exact ⟨v, r.take n, rfl, q, RDs.take n q'⟩
theorem RDs.cut {ds : List D} {vs : List V} {lo hi : Option Int} (h : RDs K G μ ds vs) : RDs K G μ (DC.cut ds lo hi) (cutV vs lo hi) := by
  unfold DC.cut cutV
  rw [h.len]
  exact (h.drop _).take _
theorem cut_len {α : Type} (ds : List α) (lo hi : Option Int) : (DC.cut ds lo hi).length ≤ ds.length := by
  unfold DC.cut
  rw [List.length_take, List.length_drop]
  omega
theorem RDs.set : ∀ {ds : List D} {vs : List V} {d : D} {v : V} (i : Nat), RDs K G μ ds vs → RD K G μ d v → RDs K G μ (ds.set i d) (vs.set i v)
  | [], vs, d, v, i, h, _ => by
    have h' : vs = [] := h
    subst h'
    rfl
  | e :: ds, vs, d, v, 0, h, q => by
    obtain ⟨v', r, rfl, _, q'⟩ := h
    exact ⟨v, r, rfl, q, q'⟩
  | e :: ds, vs, d, v, i + 1, h, q => by
    obtain ⟨v', r, rfl, q1, q'⟩ := h
    exact ⟨v', r.set i v, rfl, q1, RDs.set i q' q⟩
theorem RDs.rep {ds : List D} {vs : List V} (h : RDs K G μ ds vs) : ∀ n : Nat, RDs K G μ (List.replicate n ds).flatten (List.replicate n vs).flatten
  | 0 => rfl
  | n + 1 => by
    rw [List.replicate_succ, List.replicate_succ, List.flatten_cons, List.flatten_cons]
    exact h.app (RDs.rep h n)
mutual
theorem RD.mono (e : Same G G') (m : μ <+: μ') : ∀ {d : D} {v : V}, RD K G μ d v → RD K G' μ' d v
  | .non, _, h => h
  | .bl _, _, h => h
  | .int _, _, h => h
  | .str _, _, h => h
  | .tup ds, v, h => by
    obtain ⟨a, vs, q, s, z, r⟩ := h
    exact ⟨a, vs, q, Same.t e s, z, RDs.mono e m r⟩
  | .lst ds, v, h => by
    obtain ⟨a, vs, q, s, z, r⟩ := h
    exact ⟨a, vs, q, e _ _ s, z, RDs.mono e m r⟩
  | .dct ks xs, v, h => by
    obtain ⟨a, vs, q, s, z, r⟩ := h
    exact ⟨a, vs, q, e _ _ s, z, RDs.mono e m r⟩
  | .scr ds, v, h => by
    obtain ⟨a, vs, q, s, z, r⟩ := h
    exact ⟨a, vs, q, e.seq s, z, RDs.mono e m r⟩
  | .ref n, v, h => by
    obtain ⟨a, q, s⟩ := h
    obtain ⟨t, rfl⟩ := m
    exact ⟨a, q, by rw [List.getElem?_append_left (List.getElem?_eq_some_iff.mp s).1]; exact s⟩
theorem RDs.mono (e : Same G G') (m : μ <+: μ') : ∀ {ds : List D} {vs : List V}, RDs K G μ ds vs → RDs K G' μ' ds vs
  | [], _, h => h
  | d :: ds, vs, h => by
    obtain ⟨v, r, q, h1, h2⟩ := h
    exact ⟨v, r, q, RD.mono e m h1, RDs.mono e m h2⟩
end
/-- a cell is left where it is -/
theorem CellAt.mono {H H' : Hp} {a : Addr} {c : Cell} (h : CellAt K G μ H a c) (e : Same G G') (m : μ <+: μ') (k : H' a = H a) : CellAt K G' μ' H' a c := by
  cases c with
  | lst ds =>
    obtain ⟨vs, q, z, r⟩ := h
    exact ⟨vs, k.trans q, z, r.mono e m⟩
  | dct ks xs =>
    obtain ⟨vs, q, z, r⟩ := h
    exact ⟨vs, k.trans q, z, r.mono e m⟩
  | ins c fs => exact h
theorem CellAt.there {H : Hp} {a : Addr} {c : Cell} (h : CellAt K G μ H a c) : ∃ o, H a = some o := by
  cases c with
  | lst ds =>
    obtain ⟨vs, q, _⟩ := h
    exact ⟨_, q⟩
  | dct ks xs =>
    obtain ⟨vs, q, _⟩ := h
    exact ⟨_, q⟩
  | ins c fs => exact h.elim
/-- what a cell holds, frozen -/
theorem CellAt.frz {H : Hp} {a : Addr} {c : Cell} (h : CellAt K G μ H a c) (e : Same G G') (k : G' a = H a) : RD K G' μ c.toD (.ref a) := by
  cases c with
  | lst ds =>
    obtain ⟨vs, q, z, r⟩ := h
    exact ⟨a, vs, rfl, k.trans q, z, r.mono e (List.prefix_refl _)⟩
  | dct ks xs =>
    obtain ⟨vs, q, z, r⟩ := h
    exact ⟨a, vs, rfl, k.trans q, z, r.mono e (List.prefix_refl _)⟩
  | ins c fs => exact h.elim
end

/-! ### the state -/
/-- what stays while a body runs: F, the rest of the heap; G0, μ0: what was frozen, which cells there were at the entry -/
structure Fr where
  F : Hp
  G0 : Hp
  μ0 : List Addr
def SlotAt (K : PySem.W.Frag) (G : Hp) (μ : List Addr) (F H : Hp) (x : Option (Option V)) : Slot → Prop
  | .no => True
  | .val d => ∃ v, x = some (some v) ∧ RD K G μ d v
  | .own c => ∃ a, x = some (some (.ref a)) ∧ CellAt K G μ H a c ∧ G a = none ∧ F a = none ∧ a ∉ μ
structure Sim (K : PySem.W.Frag) (R : Fr) (G : Hp) (μ : List Addr) (Γ : List Slot) (h : List Cell) (σ : St) (H : Hp) : Prop where
  gh : Same G H
  fh : Same R.F H
  g0 : Same R.G0 G
  m0 : R.μ0 <+: μ
  gf : ∀ a, G a ≠ none → R.G0 a ≠ none ∨ R.F a = none
  mf : ∀ a ∈ μ, R.F a = none
  mg : ∀ a ∈ μ, G a = none
  nd : μ.Nodup
  len : μ.length = h.length
  cells : ∀ (n : Nat) (a : Addr) (c : Cell), μ[n]? = some a → h[n]? = some c → CellAt K G μ H a c
  slen : Γ.length = σ.length
  slots : ∀ (i : Nat) (s : Slot), Γ[i]? = some s → SlotAt K G μ R.F H σ[i]? s
  dist : ∀ (i j : Nat) (a : Addr) (c c' : Cell), Γ[i]? = some (.own c) → Γ[j]? = some (.own c') → σ[i]? = some (some (.ref a)) → σ[j]? = some (some (.ref a)) → i = j
/-- what an expression's value leans on stays -/
structure Ext (Γ : List Slot) (σ : St) (G : Hp) (μ : List Addr) (H : Hp) (G' : Hp) (μ' : List Addr) (H' : Hp) : Prop where
  gg : Same G G'
  mm : μ <+: μ'
  own : ∀ (i : Nat) (c : Cell) (a : Addr), Γ[i]? = some (.own c) → σ[i]? = some (some (.ref a)) → H' a = H a
theorem Ext.refl {Γ : List Slot} {σ : St} {G : Hp} {μ : List Addr} {H : Hp} : Ext Γ σ G μ H G μ H := ⟨Same.refl _, List.prefix_refl _, fun _ _ _ _ _ => rfl⟩
theorem Ext.trans {Γ : List Slot} {σ : St} {G G1 G2 : Hp} {μ μ1 μ2 : List Addr} {H H1 H2 : Hp} (a : Ext Γ σ G μ H G1 μ1 H1) (b : Ext Γ σ G1 μ1 H1 G2 μ2 H2) : Ext Γ σ G μ H G2 μ2 H2 :=
  ⟨a.gg.trans b.gg, a.mm.trans b.mm, fun i c x e1 e2 => (b.own i c x e1 e2).trans (a.own i c x e1 e2)⟩
/-- a value, or what an owned slot holds at this time -/
def RW (K : PySem.W.Frag) (Γ : List Slot) (σ : St) (G : Hp) (μ : List Addr) (H : Hp) (d : D) (v : V) : Prop :=
  RD K G μ d v ∨ ∃ (i : Nat) (c : Cell) (a : Addr), Γ[i]? = some (.own c) ∧ σ[i]? = some (some (.ref a)) ∧ v = .ref a ∧ d = c.toD ∧ CellAt K G μ H a c
theorem RW.mono {K : PySem.W.Frag} {Γ : List Slot} {σ : St} {G G' : Hp} {μ μ' : List Addr} {H H' : Hp} {d : D} {v : V} (r : RW K Γ σ G μ H d v) (e : Ext Γ σ G μ H G' μ' H') : RW K Γ σ G' μ' H' d v := by
  rcases r with r | ⟨i, c, a, h1, h2, h3, h4, h5⟩
  · exact .inl (r.mono e.gg e.mm)
  · exact .inr ⟨i, c, a, h1, h2, h3, h4, h5.mono e.gg e.mm (e.own i c a h1 h2)⟩
/-- by what the expression is: strong or weak -/
def RE (K : PySem.W.Frag) (st : Bool) (Γ : List Slot) (σ : St) (G : Hp) (μ : List Addr) (H : Hp) (d : D) (v : V) : Prop :=
  if st = true then RD K G μ d v else RW K Γ σ G μ H d v
theorem RE.w {K : PySem.W.Frag} {st : Bool} {Γ : List Slot} {σ : St} {G : Hp} {μ : List Addr} {H : Hp} {d : D} {v : V} (r : RE K st Γ σ G μ H d v) : RW K Γ σ G μ H d v := by
  unfold RE at r
  split at r
  · exact .inl r
  · exact r
theorem RE.s {K : PySem.W.Frag} {st : Bool} {Γ : List Slot} {σ : St} {G : Hp} {μ : List Addr} {H : Hp} {d : D} {v : V} (r : RE K st Γ σ G μ H d v) (e : st = true) : RD K G μ d v := by
  unfold RE at r
  rw [if_pos e] at r
  exact r
theorem RE.of {K : PySem.W.Frag} {st : Bool} {Γ : List Slot} {σ : St} {G : Hp} {μ : List Addr} {H : Hp} {d : D} {v : V} (r : RD K G μ d v) : RE K st Γ σ G μ H d v := by
  unfold RE
  split
  · exact r
  · exact .inl r

section
variable {K : PySem.W.Frag} {R : Fr} {G : Hp} {μ : List Addr} {Γ : List Slot} {h : List Cell} {σ : St} {H : Hp}
theorem Sim.cell_at (S : Sim K R G μ Γ h σ H) {n : Nat} {a : Addr} (e : μ[n]? = some a) : ∃ c, h[n]? = some c ∧ CellAt K G μ H a c := by
  have hn : n < h.length := by
    rw [← S.len]
    exact (List.getElem?_eq_some_iff.mp e).1
  exact ⟨h[n], List.getElem?_eq_getElem hn, S.cells n a _ e (List.getElem?_eq_getElem hn)⟩
theorem Sim.mem_there (S : Sim K R G μ Γ h σ H) {a : Addr} (e : a ∈ μ) : ∃ o, H a = some o := by
  obtain ⟨n, hn⟩ := List.getElem?_of_mem e
  obtain ⟨c, _, q⟩ := S.cell_at hn
  exact q.there
/-- a new frozen object -/
theorem Sim.push (S : Sim K R G μ Γ h σ H) {p : Addr} {o : HO} (hp : H p = none) : Sim K R (upd G p o) μ Γ h σ (upd H p o) ∧ Ext Γ σ G μ H (upd G p o) μ (upd H p o) := by
  have gp : G p = none := S.gh.free hp
  have fp : R.F p = none := S.fh.free hp
  have gs : Same G (upd G p o) := Same.new gp
  have hs : Same H (upd H p o) := Same.new hp
  have ne : ∀ {a : Addr} {u : HO}, H a = some u → a ≠ p := fun e => ne_of_none e hp
  refine ⟨⟨fun a u e => ?_, S.fh.trans hs, S.g0.trans gs, S.m0, fun a e => ?_, S.mf, fun a e => ?_, S.nd, S.len, fun n a c e1 e2 => ?_, S.slen, fun i s e => ?_, S.dist⟩, gs, List.prefix_refl _, fun i c a e1 e2 => ?_⟩
  · by_cases q : a = p
    · subst q
      rw [upd_same] at e ⊢
      exact e
    · rw [upd_ne q] at e ⊢
      exact S.gh a u e
  · by_cases q : a = p
    · subst q
      exact .inr fp
    · rw [upd_ne q] at e
      exact S.gf a e
  · obtain ⟨u, q⟩ := S.mem_there e
    rw [upd_ne (ne q)]
    exact S.mg a e
  · have q := S.cells n a c e1 e2
    obtain ⟨u, z⟩ := q.there
    exact q.mono gs (List.prefix_refl _) (upd_ne (ne z))
  · have q := S.slots i s e
    cases s with
    | no => trivial
    | val d =>
      obtain ⟨v, e1, r⟩ := q
      exact ⟨v, e1, r.mono gs (List.prefix_refl _)⟩
    | own c =>
      obtain ⟨a, e1, c1, g1, f1, m1⟩ := q
      obtain ⟨u, z⟩ := c1.there
      exact ⟨a, e1, c1.mono gs (List.prefix_refl _) (upd_ne (ne z)), by rw [upd_ne (ne z)]; exact g1, f1, m1⟩
  · obtain ⟨a', q1, c1, _⟩ := S.slots i _ e1
    rw [e2] at q1
    cases q1
    obtain ⟨u, z⟩ := c1.there
    exact upd_ne (ne z)
/-- a new object that is not frozen (it may be owned, or become a cell) -/
theorem Sim.lay (S : Sim K R G μ Γ h σ H) {p : Addr} {o : HO} (hp : H p = none) : Sim K R G μ Γ h σ (upd H p o) ∧ Ext Γ σ G μ H G μ (upd H p o) := by
  have hs : Same H (upd H p o) := Same.new hp
  have ne : ∀ {a : Addr} {u : HO}, H a = some u → a ≠ p := fun e => ne_of_none e hp
  refine ⟨⟨S.gh.trans hs, S.fh.trans hs, S.g0, S.m0, S.gf, S.mf, S.mg, S.nd, S.len, fun n a c e1 e2 => ?_, S.slen, fun i s e => ?_, S.dist⟩, Same.refl _, List.prefix_refl _, fun i c a e1 e2 => ?_⟩
  · have q := S.cells n a c e1 e2
    obtain ⟨u, z⟩ := q.there
    exact q.mono (Same.refl _) (List.prefix_refl _) (upd_ne (ne z))
  · have q := S.slots i s e
    cases s with
    | no => trivial
    | val d => exact q
    | own c =>
      obtain ⟨a, e1, c1, g1, f1, m1⟩ := q
      obtain ⟨u, z⟩ := c1.there
      exact ⟨a, e1, c1.mono (Same.refl _) (List.prefix_refl _) (upd_ne (ne z)), g1, f1, m1⟩
  · obtain ⟨a', q1, c1, _⟩ := S.slots i _ e1
    rw [e2] at q1
    cases q1
    obtain ⟨u, z⟩ := c1.there
    exact upd_ne (ne z)
/-- an object that nothing here speaks of is written -/
theorem Sim.over (S : Sim K R G μ Γ h σ H) {p : Addr} {o : HO} (hG : G p = none) (hF : R.F p = none) (hm : p ∉ μ) (ho : ∀ (i : Nat) (c : Cell), Γ[i]? = some (.own c) → σ[i]? ≠ some (some (.ref p))) :
    Sim K R G μ Γ h σ (upd H p o) ∧ Ext Γ σ G μ H G μ (upd H p o) := by
  have gne : ∀ {a : Addr} {u : HO}, G a = some u → a ≠ p := fun e z => by
    rw [z, hG] at e
    cases e
  have fne : ∀ {a : Addr} {u : HO}, R.F a = some u → a ≠ p := fun e z => by
    rw [z, hF] at e
    cases e
  have one : ∀ (i : Nat) (c : Cell) (a : Addr), Γ[i]? = some (.own c) → σ[i]? = some (some (.ref a)) → a ≠ p := fun i c a e1 e2 z => ho i c e1 (by rw [← z]; exact e2)
  refine ⟨⟨fun a u e => by rw [upd_ne (gne e)]; exact S.gh a u e, fun a u e => by rw [upd_ne (fne e)]; exact S.fh a u e, S.g0, S.m0, S.gf, S.mf, S.mg, S.nd, S.len, fun n a c e1 e2 => ?_, S.slen, fun i s e => ?_, S.dist⟩, Same.refl _, List.prefix_refl _, fun i c a e1 e2 => upd_ne (one i c a e1 e2)⟩
  · have n1 : a ≠ p := fun z => hm (by rw [← z]; exact List.mem_of_getElem? e1)
    exact (S.cells n a c e1 e2).mono (Same.refl _) (List.prefix_refl _) (upd_ne n1)
  · have q := S.slots i s e
    cases s with
    | no => trivial
    | val d => exact q
    | own c =>
      obtain ⟨a, e1, c1, g1, f1, m1⟩ := q
      exact ⟨a, e1, c1.mono (Same.refl _) (List.prefix_refl _) (upd_ne (one i c a e e1)), g1, f1, m1⟩
/-- a fresh object is frozen -/
theorem Sim.frz (S : Sim K R G μ Γ h σ H) {p : Addr} {o : HO} (hH : H p = some o) (hG : G p = none) (hF : R.F p = none) (hm : p ∉ μ) (ho : ∀ (i : Nat) (c : Cell), Γ[i]? = some (.own c) → σ[i]? ≠ some (some (.ref p))) :
    Sim K R (upd G p o) μ Γ h σ H ∧ Ext Γ σ G μ H (upd G p o) μ H := by
  have gs : Same G (upd G p o) := Same.new hG
  refine ⟨⟨fun a u e => ?_, S.fh, S.g0.trans gs, S.m0, fun a e => ?_, S.mf, fun a e => ?_, S.nd, S.len, fun n a c e1 e2 => (S.cells n a c e1 e2).mono gs (List.prefix_refl _) rfl, S.slen, fun i s e => ?_, S.dist⟩, gs, List.prefix_refl _, fun _ _ _ _ _ => rfl⟩
  · by_cases q : a = p
    · subst q
      rw [upd_same] at e
      rw [hH]
      exact e
    · rw [upd_ne q] at e
      exact S.gh a u e
  · by_cases q : a = p
    · subst q
      exact .inr hF
    · rw [upd_ne q] at e
      exact S.gf a e
  · have n : a ≠ p := fun z => hm (by rw [← z]; exact e)
    rw [upd_ne n]
    exact S.mg a e
  · have q := S.slots i s e
    cases s with
    | no => trivial
    | val d =>
      obtain ⟨v, e1, r⟩ := q
      exact ⟨v, e1, r.mono gs (List.prefix_refl _)⟩
    | own c =>
      obtain ⟨a, e1, c1, g1, f1, m1⟩ := q
      refine ⟨a, e1, c1.mono gs (List.prefix_refl _) rfl, ?_, f1, m1⟩
      have n : a ≠ p := fun z => ho i c e (by rw [← z]; exact e1)
      rw [upd_ne n]
      exact g1
/-- a fresh object becomes a cell -/
theorem Sim.cell (S : Sim K R G μ Γ h σ H) {p : Addr} {c : Cell} (hC : CellAt K G μ H p c) (hG : G p = none) (hF : R.F p = none) (hm : p ∉ μ) (ho : ∀ (i : Nat) (c : Cell), Γ[i]? = some (.own c) → σ[i]? ≠ some (some (.ref p))) :
    Sim K R G (μ ++ [p]) Γ (h ++ [c]) σ H ∧ Ext Γ σ G μ H G (μ ++ [p]) H := by
  have mp : μ <+: μ ++ [p] := List.prefix_append _ _
  refine ⟨⟨S.gh, S.fh, S.g0, S.m0.trans mp, S.gf, fun a e => ?_, fun a e => ?_, ?_, ?_, fun n a c' e1 e2 => ?_, S.slen, fun i s e => ?_, S.dist⟩, Same.refl _, mp, fun _ _ _ _ _ => rfl⟩
  · rcases List.mem_append.mp e with e | e
    · exact S.mf a e
    · rw [List.mem_singleton.mp e]
      exact hF
  · rcases List.mem_append.mp e with e | e
    · exact S.mg a e
    · rw [List.mem_singleton.mp e]
      exact hG
  · refine List.nodup_append.mpr ⟨S.nd, by simp, fun a ha b hb => ?_⟩
    rw [List.mem_singleton.mp hb]
    exact fun z => hm (z ▸ ha)
  · simp [S.len]
  · by_cases hn : n < μ.length
    · rw [List.getElem?_append_left hn] at e1
      rw [List.getElem?_append_left (by rw [← S.len]; exact hn)] at e2
      exact (S.cells n a c' e1 e2).mono (Same.refl _) mp rfl
    · have e0 : n = μ.length := by
        have := (List.getElem?_eq_some_iff.mp e1).1
        simp at this
        omega
      subst e0
      rw [List.getElem?_append_right (Nat.le_refl _)] at e1
      rw [S.len, List.getElem?_append_right (Nat.le_refl _)] at e2
      simp at e1 e2
      subst e1 e2
      exact hC.mono (Same.refl _) mp rfl
  · have q := S.slots i s e
    cases s with
    | no => trivial
    | val d =>
      obtain ⟨v, e1, r⟩ := q
      exact ⟨v, e1, r.mono (Same.refl _) mp⟩
    | own c =>
      obtain ⟨a, e1, c1, g1, f1, m1⟩ := q
      refine ⟨a, e1, c1.mono (Same.refl _) mp rfl, g1, f1, fun z => ?_⟩
      rcases List.mem_append.mp z with z | z
      · exact m1 z
      · exact ho i c e (List.mem_singleton.mp z ▸ e1)
/-- a cell is written -/
theorem Sim.write (S : Sim K R G μ Γ h σ H) {n : Nat} {p : Addr} {c : Cell} {o : HO} (hn : μ[n]? = some p) (hC : CellAt K G μ (upd H p o) p c) :
    Sim K R G μ Γ (h.set n c) σ (upd H p o) ∧ Ext Γ σ G μ H G μ (upd H p o) := by
  have hp : p ∈ μ := List.mem_of_getElem? hn
  have hlt : n < h.length := by
    rw [← S.len]
    exact (List.getElem?_eq_some_iff.mp hn).1
  have gne : ∀ {a : Addr} {u : HO}, G a = some u → a ≠ p := fun e z => by
    rw [z, S.mg p hp] at e
    cases e
  have fne : ∀ {a : Addr} {u : HO}, R.F a = some u → a ≠ p := fun e z => by
    rw [z, S.mf p hp] at e
    cases e
  have own : ∀ (i : Nat) (c : Cell) (a : Addr), Γ[i]? = some (.own c) → σ[i]? = some (some (.ref a)) → a ≠ p := fun i c a e1 e2 z => by
    obtain ⟨a', q1, _, _, _, m1⟩ := S.slots i _ e1
    rw [e2] at q1
    cases q1
    exact m1 (z ▸ hp)
  refine ⟨⟨fun a u e => by rw [upd_ne (gne e)]; exact S.gh a u e, fun a u e => by rw [upd_ne (fne e)]; exact S.fh a u e, S.g0, S.m0, S.gf, S.mf, S.mg, S.nd, by simpa using S.len, fun m a c' e1 e2 => ?_, S.slen, fun i s e => ?_, S.dist⟩, Same.refl _, List.prefix_refl _, fun i c a e1 e2 => upd_ne (own i c a e1 e2)⟩
  · by_cases hmn : m = n
    · subst hmn
      rw [hn] at e1
      cases e1
      rw [List.getElem?_set_self hlt] at e2
      cases e2
      exact hC
    · rw [List.getElem?_set_ne (Ne.symm hmn)] at e2
      refine (S.cells m a c' e1 e2).mono (Same.refl _) (List.prefix_refl _) (upd_ne fun z => ?_)
      subst z
      obtain ⟨h1, q1⟩ := List.getElem?_eq_some_iff.mp e1
      obtain ⟨h2, q2⟩ := List.getElem?_eq_some_iff.mp hn
      exact hmn ((List.getElem_inj S.nd).mp (q1.trans q2.symm))
  · have q := S.slots i s e
    cases s with
    | no => trivial
    | val d => exact q
    | own c =>
      obtain ⟨a, e1, c1, g1, f1, m1⟩ := q
      exact ⟨a, e1, c1.mono (Same.refl _) (List.prefix_refl _) (upd_ne (own i c a e e1)), g1, f1, m1⟩
/-- a slot gets a value -/
theorem Sim.set (S : Sim K R G μ Γ h σ H) {i : Nat} {d : D} {v : V} (r : RD K G μ d v) : Sim K R G μ (Γ.set i (.val d)) h (σ.set i (some v)) H := by
  refine ⟨S.gh, S.fh, S.g0, S.m0, S.gf, S.mf, S.mg, S.nd, S.len, S.cells, by simpa using S.slen, fun j s e => ?_, fun j k a c c' e1 e2 e3 e4 => ?_⟩
  · by_cases q : i = j
    · subst q
      have hi : i < Γ.length := by
        have := (List.getElem?_eq_some_iff.mp e).1
        simpa using this
      rw [List.getElem?_set_self hi] at e
      cases e
      exact ⟨v, List.getElem?_set_self (by rw [← S.slen]; exact hi), r⟩
    · rw [List.getElem?_set_ne q] at e ⊢
      exact S.slots j s e
  · have n1 : i ≠ j := fun q => by
      subst q
      have hi : i < Γ.length := by
        have := (List.getElem?_eq_some_iff.mp e1).1
        simpa using this
      rw [List.getElem?_set_self hi] at e1
      cases e1
    have n2 : i ≠ k := fun q => by
      subst q
      have hi : i < Γ.length := by
        have := (List.getElem?_eq_some_iff.mp e2).1
        simpa using this
      rw [List.getElem?_set_self hi] at e2
      cases e2
    rw [List.getElem?_set_ne n1] at e1 e3
    rw [List.getElem?_set_ne n2] at e2 e4
    exact S.dist j k a c c' e1 e2 e3 e4
theorem Sim.setNo (S : Sim K R G μ Γ h σ H) {i : Nat} {x : Option V} : Sim K R G μ (Γ.set i .no) h (σ.set i x) H := by
  refine ⟨S.gh, S.fh, S.g0, S.m0, S.gf, S.mf, S.mg, S.nd, S.len, S.cells, by simpa using S.slen, fun j s e => ?_, fun j k a c c' e1 e2 e3 e4 => ?_⟩
  · by_cases q : i = j
    · subst q
      have hi : i < Γ.length := by
        have := (List.getElem?_eq_some_iff.mp e).1
        simpa using this
      rw [List.getElem?_set_self hi] at e
      cases e
      trivial
    · rw [List.getElem?_set_ne q] at e ⊢
      exact S.slots j s e
  · have n1 : i ≠ j := fun q => by
      subst q
      have hi : i < Γ.length := by
        have := (List.getElem?_eq_some_iff.mp e1).1
        simpa using this
      rw [List.getElem?_set_self hi] at e1
      cases e1
    have n2 : i ≠ k := fun q => by
      subst q
      have hi : i < Γ.length := by
        have := (List.getElem?_eq_some_iff.mp e2).1
        simpa using this
      rw [List.getElem?_set_self hi] at e2
      cases e2
    rw [List.getElem?_set_ne n1] at e1 e3
    rw [List.getElem?_set_ne n2] at e2 e4
    exact S.dist j k a c c' e1 e2 e3 e4
theorem Sim.wipe (S : Sim K R G μ Γ h σ H) : ∀ l : List Nat, Sim K R G μ (wipeS Γ l) h (L2.wipe σ l) H
  | [] => S
  | i :: is => (Sim.wipe S is).setNo
/-- a slot gets a fresh object of its own -/
theorem Sim.setOwn (S : Sim K R G μ Γ h σ H) {i : Nat} {p : Addr} {c : Cell} (hi : i < Γ.length) (hC : CellAt K G μ H p c) (hG : G p = none) (hF : R.F p = none) (hm : p ∉ μ) (ho : ∀ (j : Nat) (c : Cell), Γ[j]? = some (.own c) → j ≠ i → σ[j]? ≠ some (some (.ref p))) :
    Sim K R G μ (Γ.set i (.own c)) h (σ.set i (some (.ref p))) H := by
  have hσ : i < σ.length := by rw [← S.slen]; exact hi
  refine ⟨S.gh, S.fh, S.g0, S.m0, S.gf, S.mf, S.mg, S.nd, S.len, S.cells, by simpa using S.slen, fun j s e => ?_, fun j k a c1 c2 e1 e2 e3 e4 => ?_⟩
  · by_cases q : i = j
    · subst q
      rw [List.getElem?_set_self hi] at e
      cases e
      exact ⟨p, List.getElem?_set_self hσ, hC, hG, hF, hm⟩
    · rw [List.getElem?_set_ne q] at e ⊢
      exact S.slots j s e
  · by_cases n1 : i = j
    · by_cases n2 : i = k
      · exact n1.symm.trans n2
      · subst n1
        rw [List.getElem?_set_self hσ] at e3
        cases e3
        rw [List.getElem?_set_ne n2] at e2 e4
        exact absurd e4 (ho k c2 e2 (Ne.symm n2))
    · by_cases n2 : i = k
      · subst n2
        rw [List.getElem?_set_self hσ] at e4
        cases e4
        rw [List.getElem?_set_ne n1] at e1 e3
        exact absurd e3 (ho j c1 e1 (Ne.symm n1))
      · rw [List.getElem?_set_ne n1] at e1 e3
        rw [List.getElem?_set_ne n2] at e2 e4
        exact S.dist j k a c1 c2 e1 e2 e3 e4
/-- what a slot owns is written -/
theorem Sim.writeOwn (S : Sim K R G μ Γ h σ H) {i : Nat} {p : Addr} {c c' : Cell} {o : HO} (hi : Γ[i]? = some (.own c)) (hp : σ[i]? = some (some (.ref p))) (hC : CellAt K G μ (upd H p o) p c') :
    Sim K R G μ (Γ.set i (.own c')) h σ (upd H p o) := by
  obtain ⟨a, q1, c1, g1, f1, m1⟩ := S.slots i _ hi
  rw [hp] at q1
  cases q1
  have hlt := (List.getElem?_eq_some_iff.mp hi).1
  have gne : ∀ {a : Addr} {u : HO}, G a = some u → a ≠ p := fun e z => by
    rw [z, g1] at e
    cases e
  have fne : ∀ {a : Addr} {u : HO}, R.F a = some u → a ≠ p := fun e z => by
    rw [z, f1] at e
    cases e
  refine ⟨fun a u e => by rw [upd_ne (gne e)]; exact S.gh a u e, fun a u e => by rw [upd_ne (fne e)]; exact S.fh a u e, S.g0, S.m0, S.gf, S.mf, S.mg, S.nd, S.len, fun m a c2 e1 e2 => ?_, by simpa using S.slen, fun j s e => ?_, fun j k a ca cb e1 e2 e3 e4 => ?_⟩
  · exact (S.cells m a c2 e1 e2).mono (Same.refl _) (List.prefix_refl _) (upd_ne fun z => m1 (z ▸ List.mem_of_getElem? e1))
  · by_cases q : i = j
    · subst q
      rw [List.getElem?_set_self hlt] at e
      cases e
      exact ⟨p, hp, hC, g1, f1, m1⟩
    · rw [List.getElem?_set_ne q] at e
      have z := S.slots j s e
      cases s with
      | no => trivial
      | val d => exact z
      | own c2 =>
        obtain ⟨a, e1, c3, g3, f3, m3⟩ := z
        exact ⟨a, e1, c3.mono (Same.refl _) (List.prefix_refl _) (upd_ne fun y => q (S.dist i j p c c2 hi e hp (y ▸ e1))), g3, f3, m3⟩
  · have back : ∀ (m : Nat) (cc : Cell), (Γ.set i (Slot.own c'))[m]? = some (Slot.own cc) → ∃ c0, Γ[m]? = some (.own c0) := fun m cc e => by
      by_cases q : i = m
      · subst q
        exact ⟨c, hi⟩
      · rw [List.getElem?_set_ne q] at e
        exact ⟨cc, e⟩
    obtain ⟨c0, z0⟩ := back j ca e1
    obtain ⟨c9, z9⟩ := back k cb e2
    exact S.dist j k a c0 c9 z0 z9 e3 e4
end
end DC

set_option linter.all false
set_option Elab.async false
/-! DGo: what a core expression wants (Go, tI), and how wants are put one behind the other. -/
namespace DC
open PySem L2

/-- an exception of the text's own class number e.c, as it lies -/
def ExcAt (ca : Nat → Addr) (e : Exn) (cls : Value) (dx : Option Addr) : Prop := cls = .ref (ca e.c)
abbrev Rel (α β : Type) := Fr → List Slot → St → Hp → List Addr → Hp → α → β → Prop
section
variable {α β γ δ : Type}
def Go (K : PySem.W.Frag) (ca : Nat → Addr) (W : WX) (R : Fr) (Γ : List Slot) (σ : St) (ρ : Rel α β) (G : Hp) (μ : List Addr) (H : Hp) (r : Out α) (Q : β → Hp → Prop) : Prop :=
  match r with
  | none => False
  | some (.ok a h') => ∀ b G' μ' H', Sim K R G' μ' Γ h' σ H' → Ext Γ σ G μ H G' μ' H' → ρ R Γ σ G' μ' H' a b → Q b H'
  | some (.exc e h') => ∀ cls dx G' μ' H', Sim K R G' μ' Γ h' σ H' → ExcAt ca e cls dx → W cls dx σ H'
def tI (K : PySem.W.Frag) (ca : Nat → Addr) (W : WX) (ρ : Rel α β) (ev : List Slot → List Cell → Out α) : St → Hp → (β → Hp → Prop) → Prop := fun σ H Q =>
  ∃ (R : Fr) (G : Hp) (μ : List Addr) (Γ : List Slot) (h : List Cell), Sim K R G μ Γ h σ H ∧ Go K ca W R Γ σ ρ G μ H (ev Γ h) Q
variable {K : PySem.W.Frag} {ca : Nat → Addr} {W : WX} {R : Fr} {Γ : List Slot} {σ : St} {ρ : Rel α β} {ρ' : Rel γ δ} {G G1 : Hp} {μ μ1 : List Addr} {H H1 : Hp} {r : Out α} {Q Q' : β → Hp → Prop}
theorem Go.mono (g : Go K ca W R Γ σ ρ G μ H r Q) (q : ∀ b H, Q b H → Q' b H) : Go K ca W R Γ σ ρ G μ H r Q' := by
  match r, g with
  | none, g => exact g
  | some (.ok a h'), g => exact fun b G' μ' H' S X e => q _ _ (g b G' μ' H' S X e)
  | some (.exc e h'), g => exact g
theorem Go.shift (g : Go K ca W R Γ σ ρ G μ H r Q) (x : Ext Γ σ G μ H G1 μ1 H1) : Go K ca W R Γ σ ρ G1 μ1 H1 r Q := by
  match r, g with
  | none, g => exact g
  | some (.ok a h'), g => exact fun b G' μ' H' S X e => g b G' μ' H' S (x.trans X) e
  | some (.exc e h'), g => exact g
theorem Go.bind {f : α → List Cell → Out γ} {Q : δ → Hp → Prop} (g : Go K ca W R Γ σ ρ' G μ H (bnd r f) Q) :
    Go K ca W R Γ σ ρ G μ H r (fun b H1 => ∃ (a : α) (h1 : List Cell) (G1 : Hp) (μ1 : List Addr), Sim K R G1 μ1 Γ h1 σ H1 ∧ Ext Γ σ G μ H G1 μ1 H1 ∧ ρ R Γ σ G1 μ1 H1 a b ∧ Go K ca W R Γ σ ρ' G1 μ1 H1 (f a h1) Q) := by
  match r, g with
  | none, g => exact g
  | some (.ok a h'), g => exact fun b G' μ' H' S X e => ⟨a, h', G', μ', S, X, e, Go.shift g X⟩
  | some (.exc e h'), g => exact g
/-- a value that is there -/
theorem Go.val {a : α} {b : β} {h : List Cell} (g : Go K ca W R Γ σ ρ G μ H (some (.ok a h)) Q) (S : Sim K R G μ Γ h σ H) (e : ρ R Γ σ G μ H a b) : Q b H := g b G μ H S .refl e
end
/-- relations -/
def ρE (K : PySem.W.Frag) (st : Bool) : Rel D V := fun _ Γ σ G μ H d v => RE K st Γ σ G μ H d v
def ρL (K : PySem.W.Frag) : Rel (List D) (List V) := fun _ _ _ G μ _ ds vs => RDs K G μ ds vs
def ρB : Rel Bool Bool := fun _ _ _ _ _ _ a b => a = b
/-- a new list or dict that nobody else holds -/
def ρF (K : PySem.W.Frag) : Rel D V := fun R Γ σ G μ H d v => ∃ (p : Addr) (c : Cell), v = .ref p ∧ d = c.toD ∧ CellAt K G μ H p c ∧ G p = none ∧ R.F p = none ∧ p ∉ μ ∧ ∀ (i : Nat) (c : Cell), Γ[i]? = some (.own c) → σ[i]? ≠ some (some (.ref p))
def toB (m : Out D) : Out Bool := bnd m fun d h => match d with
  | .bl b => some (.ok b h)
  | _ => none
section
variable {X : Cx} {e : Expr}
theorem _root_.L2.PE.imp {t t' : TE} (p : PE X e t) (h : ∀ σ H Q, t' σ H Q → t σ H Q) : PE X e t' := ⟨fun pins s σ H Q I q => p.run pins s σ H Q I (h σ H Q q)⟩
theorem _root_.L2.PT.imp {t t' : TT} (p : PT X e t) (h : ∀ σ H Q, t' σ H Q → t σ H Q) : PT X e t' := ⟨fun pins s σ H Q I q => p.run pins s σ H Q I (h σ H Q q)⟩
theorem _root_.L2.PW.imp {t t' : TT} (p : PW X e t) (h : ∀ σ H Q, t' σ H Q → t σ H Q) : PW X e t' := ⟨fun w pins s σ H Q I q => p.run w pins s σ H Q I (h σ H Q q)⟩
theorem _root_.L2.PA.imp {es : List Expr} {t t' : TA} (p : PA X es t) (h : ∀ σ H Q, t' σ H Q → t σ H Q) : PA X es t' := ⟨fun pos pins s σ H Q I q => p.run pos pins s σ H Q I (h σ H Q q)⟩
end
section
variable {K : PySem.W.Frag} {ca : Nat → Addr} {W : WX} {σ : St} {H : Hp} {sa sb sc : Bool}
/-- what a two-place operation without effects on cells asks, told by D -/
def rB (K : PySem.W.Frag) (f : List Cell → D → D → Option D) : R2 := fun x y H Q =>
  ∃ (R : Fr) (G : Hp) (μ : List Addr) (Γ : List Slot) (h : List Cell) (σ : St) (a b d : D), Sim K R G μ Γ h σ H ∧ RW K Γ σ G μ H a x ∧ RW K Γ σ G μ H b y ∧ f h a b = some d ∧
    ∀ v G' H', Sim K R G' μ Γ h σ H' → Ext Γ σ G μ H G' μ H' → RD K G' μ d v → Q v H'
def rU1 (K : PySem.W.Frag) (f : List Cell → D → Option D) : V → Hp → VK → Prop := fun x H Q =>
  ∃ (R : Fr) (G : Hp) (μ : List Addr) (Γ : List Slot) (h : List Cell) (σ : St) (a d : D), Sim K R G μ Γ h σ H ∧ RW K Γ σ G μ H a x ∧ f h a = some d ∧
    ∀ v G' H', Sim K R G' μ Γ h σ H' → Ext Γ σ G μ H G' μ H' → RD K G' μ d v → Q v H'
abbrev rC1 (K : PySem.W.Frag) (f : List Cell → D → Option D) : List V → Hp → VK → Prop := fun xs H Q => ∃ x, xs = [x] ∧ rU1 K f x H Q
abbrev rC2 (K : PySem.W.Frag) (f : List Cell → D → D → Option D) : List V → Hp → VK → Prop := fun xs H Q => ∃ x y, xs = [x, y] ∧ rB K f x y H Q
theorem liftO_go {R : Fr} {Γ : List Slot} {G : Hp} {μ : List Addr} {h : List Cell} {m : Option D} {st : Bool} {Q : VK} (g : Go K ca W R Γ σ (ρE K st) G μ H (liftO m h) Q) :
    ∃ d, m = some d ∧ ∀ v G' H', Sim K R G' μ Γ h σ H' → Ext Γ σ G μ H G' μ H' → RD K G' μ d v → Q v H' := by
  cases m with
  | none => exact g.elim
  | some d => exact ⟨d, rfl, fun v G' H' S X r => g v G' μ H' S X (.of r)⟩
/-- the second place of two: what was told first is told behind -/
theorem un_of {ea : List Slot → List Cell → Out D} {f : List Cell → D → Option D} {st : Bool} {Q : VK}
    (t : tI K ca W (ρE K st) (fun Γ h => bnd (ea Γ h) fun x h => liftO (f h x) h) σ H Q) : tUn (rU1 K f) (tI K ca W (ρE K sa) ea) σ H Q := by
  obtain ⟨R, G, μ, Γ, h, S, g⟩ := t
  refine ⟨R, G, μ, Γ, h, S, g.bind.mono fun v H1 ⟨a, h1, G1, μ1, S1, X1, r1, g1⟩ => ?_⟩
  obtain ⟨d, e, q⟩ := liftO_go g1
  exact ⟨R, G1, μ1, Γ, h1, σ, a, d, S1, r1.w, e, q⟩
theorem two_of {ea eb : List Slot → List Cell → Out D} {f : List Cell → D → D → Option D} {st : Bool} {Q : VK}
    (t : tI K ca W (ρE K st) (fun Γ h => bnd (ea Γ h) fun x h => bnd (eb Γ h) fun y h => liftO (f h x y) h) σ H Q) : tOp (rB K f) (tI K ca W (ρE K sa) ea) (tI K ca W (ρE K sb) eb) σ H Q := by
  obtain ⟨R, G, μ, Γ, h, S, g⟩ := t
  refine ⟨R, G, μ, Γ, h, S, g.bind.mono fun v H1 ⟨a, h1, G1, μ1, S1, X1, r1, g1⟩ => ?_⟩
  refine ⟨R, G1, μ1, Γ, h1, S1, g1.bind.mono fun u H2 ⟨b, h2, G2, μ2, S2, X2, r2, g2⟩ => ?_⟩
  obtain ⟨d, e, q⟩ := liftO_go g2
  exact ⟨R, G2, μ2, Γ, h2, σ, a, b, d, S2, r1.w.mono X2, r2.w, e, q⟩
end

/-! ### what is read of a value -/
section
variable {K : PySem.W.Frag} {R : Fr} {G : Hp} {μ : List Addr} {Γ : List Slot} {h : List Cell} {σ : St} {H : Hp}
theorem lst_at (S : Sim K R G μ Γ h σ H) {d : D} {v : V} (r : RW K Γ σ G μ H d v) {ds : List D} (e : lstOf h d = some ds) : ∃ a vs, v = .ref a ∧ H a = some (.lst vs) ∧ ds.length ≤ maxLen ∧ RDs K G μ ds vs := by
  rcases r with r | ⟨i, c, a, h1, h2, h3, h4, h5⟩
  · cases d with
    | lst xs =>
      cases e
      obtain ⟨a, vs, q, z, l, r⟩ := r
      exact ⟨a, vs, q, S.gh _ _ z, l, r⟩
    | ref n =>
      obtain ⟨a, q, z⟩ := r
      obtain ⟨c, hc, k⟩ := S.cell_at z
      unfold lstOf at e
      simp only [hc] at e
      cases c with
      | lst xs =>
        cases e
        obtain ⟨vs, y, l, t⟩ := k
        exact ⟨a, vs, q, y, l, t⟩
      | dct _ _ => cases e
      | ins _ _ => cases e
    | _ => cases e
  · subst h4
    cases c with
    | lst xs =>
      cases e
      obtain ⟨vs, y, l, t⟩ := h5
      exact ⟨a, vs, h3, y, l, t⟩
    | dct _ _ => cases e
    | ins _ _ => cases e
theorem seq_at (S : Sim K R G μ Γ h σ H) {d : D} {v : V} (r : RW K Γ σ G μ H d v) {ds : List D} (e : seqOf h d = some ds) : ∃ a vs, v = .ref a ∧ (SqL K H a vs ∨ SqT K H a vs) ∧ ds.length ≤ maxLen ∧ RDs K G μ ds vs := by
  by_cases hl : lstOf h d = some ds
  · obtain ⟨a, vs, q, z, l, t⟩ := lst_at S r hl
    exact ⟨a, vs, q, .inl (.of z), l, t⟩
  · rcases r with r | ⟨i, c, a, h1, h2, h3, h4, h5⟩
    · cases d with
      | tup xs =>
        cases e
        obtain ⟨a, vs, q, z, l, r⟩ := r
        exact ⟨a, vs, q, .inr (Same.t S.gh z), l, r⟩
      | scr xs =>
        cases e
        obtain ⟨a, vs, q, z, l, r⟩ := r
        exact ⟨a, vs, q, .inl (S.gh.seq z), l, r⟩
      | lst xs => exact absurd e hl
      | ref n => exact absurd e hl
      | _ => cases e
    · subst h4
      cases c with
      | lst xs => exact absurd e hl
      | dct _ _ => cases e
      | ins _ _ => cases e
theorem tup_at (S : Sim K R G μ Γ h σ H) {ds : List D} {v : V} (r : RW K Γ σ G μ H (.tup ds) v) : ∃ a vs, v = .ref a ∧ SqT K H a vs ∧ ds.length ≤ maxLen ∧ RDs K G μ ds vs ∧ RD K G μ (.tup ds) v := by
  rcases r with r | ⟨i, c, a, h1, h2, h3, h4, h5⟩
  · obtain ⟨a, vs, q, z, l, t⟩ := id r
    exact ⟨a, vs, q, Same.t S.gh z, l, t, r⟩
  · cases c <;> cases h4
theorem int_at {i : Int} {v : V} (r : RW K Γ σ G μ H (.int i) v) : v = .int i := by
  rcases r with r | ⟨_, c, a, h1, h2, h3, h4, h5⟩
  · exact r
  · cases c <;> cases h4
theorem bl_at {i : Bool} {v : V} (r : RW K Γ σ G μ H (.bl i) v) : v = .bl i := by
  rcases r with r | ⟨_, c, a, h1, h2, h3, h4, h5⟩
  · exact r
  · cases c <;> cases h4
theorem str_at {i : Str} {v : V} (r : RW K Γ σ G μ H (.str i) v) : v = .str i ∧ i.length ≤ maxLen := by
  rcases r with r | ⟨_, c, a, h1, h2, h3, h4, h5⟩
  · exact r
  · cases c <;> cases h4
theorem non_at {v : V} (r : RW K Γ σ G μ H .non v) : v = .non := by
  rcases r with r | ⟨_, c, a, h1, h2, h3, h4, h5⟩
  · exact r
  · cases c with
    | lst _ => cases h4
    | dct _ _ => cases h4
    | ins _ _ => exact h5.elim
theorem dct_at (S : Sim K R G μ Γ h σ H) {ks : List Key} {xs : List D} {v : V} (r : RW K Γ σ G μ H (.dct ks xs) v) : ∃ a kvs, v = .ref a ∧ H a = some (.dK kvs) ∧ kvs.map (·.1) = ks ∧ RDs K G μ xs (kvs.map (·.2)) := by
  rcases r with r | ⟨i, c, a, h1, h2, h3, h4, h5⟩
  · obtain ⟨a, kvs, q, z, l, t⟩ := id r
    exact ⟨a, kvs, q, S.gh _ _ z, l, t⟩
  · cases c with
    | dct k2 x2 =>
      cases h4
      obtain ⟨kvs, y, l, t⟩ := h5
      exact ⟨a, kvs, h3, y, l, t⟩
    | lst _ => cases h4
    | ins _ _ => cases h4
theorem ref_at {n : Nat} {v : V} (r : RW K Γ σ G μ H (.ref n) v) : ∃ a, v = .ref a ∧ μ[n]? = some a := by
  rcases r with r | ⟨_, c, a, h1, h2, h3, h4, h5⟩
  · exact r
  · cases c <;> cases h4
/-- new things -/
theorem new_lst {ds : List D} {vs : List V} {p : Addr} (hz : ds.length ≤ maxLen) (t : RDs K G μ ds vs) (hp : H p = none) (S : Sim K R G μ Γ h σ H) :
    Sim K R (upd G p (.lst vs)) μ Γ h σ (upd H p (.lst vs)) ∧ Ext Γ σ G μ H (upd G p (.lst vs)) μ (upd H p (.lst vs)) ∧ RD K (upd G p (.lst vs)) μ (.lst ds) (.ref p) := by
  obtain ⟨S1, X1⟩ := S.push (o := .lst vs) hp
  exact ⟨S1, X1, p, vs, rfl, upd_same, hz, t.mono X1.gg X1.mm⟩
theorem new_tup {ds : List D} {vs : List V} {p : Addr} (hz : ds.length ≤ maxLen) (t : RDs K G μ ds vs) (hp : H p = none) (S : Sim K R G μ Γ h σ H) :
    Sim K R (upd G p (.tup vs)) μ Γ h σ (upd H p (.tup vs)) ∧ Ext Γ σ G μ H (upd G p (.tup vs)) μ (upd H p (.tup vs)) ∧ RD K (upd G p (.tup vs)) μ (.tup ds) (.ref p) := by
  obtain ⟨S1, X1⟩ := S.push (o := .tup vs) hp
  exact ⟨S1, X1, p, vs, rfl, .of upd_same, hz, t.mono X1.gg X1.mm⟩
end
end DC

set_option linter.all false
set_option Elab.async false
set_option maxRecDepth 100000
set_option maxHeartbeats 2000000
/-! DEq: a dict is equal to nothing of another kind (printed by gen_deq.py). -/
namespace PySem.SeqAt
open AutoSeq1 (wpAny_loadPart')
open MeetsSeq
/-- a dict's object -/
def IsDct (h : Heap) (a : Addr) : Prop := ∃ o es n, h.get? a = some o ∧ o.cls = .type "dict" ∧ o.data = .dict es n
theorem dict_eq_declines_none (l : Addr) (es : Array DictEntry) (n : Nat) (dd : Option Addr) (sl : Array (Option Value))  :
    Meets (Builtin.«dict.__eq__» ⟨[.ref l, .none], []⟩) (fun _ R s => s.heap.get? l = some { cls := .type "dict", dict := dd, data := .dict es n, slots := sl } ∧ R (.ok (.ret .notImplemented)) s) :=
  .of_wp fun prog w A R s h => by obtain ⟨hp, g, d, tk, os⟩ := s; obtain ⟨hl, h⟩ := h; have f1 := F.sub_NoneType_dict; wp_walk using wpAny_loadPart' hl, wpAny_load hl; exact ⟨_, rfl, h⟩
theorem dict_eq_declines_bool (l : Addr) (es : Array DictEntry) (n : Nat) (dd : Option Addr) (sl : Array (Option Value)) (b : Bool) :
    Meets (Builtin.«dict.__eq__» ⟨[.ref l, (.bool b)], []⟩) (fun _ R s => s.heap.get? l = some { cls := .type "dict", dict := dd, data := .dict es n, slots := sl } ∧ R (.ok (.ret .notImplemented)) s) :=
  .of_wp fun prog w A R s h => by obtain ⟨hp, g, d, tk, os⟩ := s; obtain ⟨hl, h⟩ := h; have f1 := F.sub_bool_dict; wp_walk using wpAny_loadPart' hl, wpAny_load hl; exact ⟨_, rfl, h⟩
theorem bool_eq_declines_dict (b : Bool) (l : Addr) (es : Array DictEntry) (n : Nat) (dd : Option Addr) (sl : Array (Option Value)) :
    Meets (Builtin.«int.__eq__» ⟨[(.bool b), .ref l], []⟩) (fun _ R s => s.heap.get? l = some { cls := .type "dict", dict := dd, data := .dict es n, slots := sl } ∧ R (.ok (.ret .notImplemented)) s) :=
  .of_wp fun prog w A R s h => by obtain ⟨hp, g, d, tk, os⟩ := s; obtain ⟨hl, h⟩ := h; wp_walk using wpAny_loadPart' hl, wpAny_load hl; exact ⟨_, rfl, h⟩
theorem dict_eq_declines_int (l : Addr) (es : Array DictEntry) (n : Nat) (dd : Option Addr) (sl : Array (Option Value)) (b : Int) (u : Tok) :
    Meets (Builtin.«dict.__eq__» ⟨[.ref l, (.int b u)], []⟩) (fun _ R s => s.heap.get? l = some { cls := .type "dict", dict := dd, data := .dict es n, slots := sl } ∧ R (.ok (.ret .notImplemented)) s) :=
  .of_wp fun prog w A R s h => by obtain ⟨hp, g, d, tk, os⟩ := s; obtain ⟨hl, h⟩ := h; have f1 := F.sub_int_dict; wp_walk using wpAny_loadPart' hl, wpAny_load hl; exact ⟨_, rfl, h⟩
theorem int_eq_declines_dict (b : Int) (u : Tok) (l : Addr) (es : Array DictEntry) (n : Nat) (dd : Option Addr) (sl : Array (Option Value)) :
    Meets (Builtin.«int.__eq__» ⟨[(.int b u), .ref l], []⟩) (fun _ R s => s.heap.get? l = some { cls := .type "dict", dict := dd, data := .dict es n, slots := sl } ∧ R (.ok (.ret .notImplemented)) s) :=
  .of_wp fun prog w A R s h => by obtain ⟨hp, g, d, tk, os⟩ := s; obtain ⟨hl, h⟩ := h; wp_walk using wpAny_loadPart' hl, wpAny_load hl; exact ⟨_, rfl, h⟩
theorem dict_eq_declines_str (l : Addr) (es : Array DictEntry) (n : Nat) (dd : Option Addr) (sl : Array (Option Value)) (b : Str) (u : Tok) :
    Meets (Builtin.«dict.__eq__» ⟨[.ref l, (.str b u)], []⟩) (fun _ R s => s.heap.get? l = some { cls := .type "dict", dict := dd, data := .dict es n, slots := sl } ∧ R (.ok (.ret .notImplemented)) s) :=
  .of_wp fun prog w A R s h => by obtain ⟨hp, g, d, tk, os⟩ := s; obtain ⟨hl, h⟩ := h; have f1 := F.sub_str_dict; wp_walk using wpAny_loadPart' hl, wpAny_load hl; exact ⟨_, rfl, h⟩
theorem str_eq_declines_dict (b : Str) (u : Tok) (l : Addr) (es : Array DictEntry) (n : Nat) (dd : Option Addr) (sl : Array (Option Value)) :
    Meets (Builtin.«str.__eq__» ⟨[(.str b u), .ref l], []⟩) (fun _ R s => s.heap.get? l = some { cls := .type "dict", dict := dd, data := .dict es n, slots := sl } ∧ R (.ok (.ret .notImplemented)) s) :=
  .of_wp fun prog w A R s h => by obtain ⟨hp, g, d, tk, os⟩ := s; obtain ⟨hl, h⟩ := h; wp_walk using wpAny_loadPart' hl, wpAny_load hl; exact ⟨_, rfl, h⟩
theorem dict_eq_declines_list (l b : Addr) (es : Array DictEntry) (items : Array Value) (n n2 : Nat) (dd dd2 : Option Addr) (sl sl2 : Array (Option Value)) :
    Meets (Builtin.«dict.__eq__» ⟨[.ref l, .ref b], []⟩) (fun _ R s => s.heap.get? l = some { cls := .type "dict", dict := dd, data := .dict es n, slots := sl } ∧ s.heap.get? b = some { cls := .type "list", dict := dd2, data := .seq items n2, slots := sl2 } ∧ R (.ok (.ret .notImplemented)) s) :=
  .of_wp fun prog w A R s h => by obtain ⟨hp, g, d, tk, os⟩ := s; obtain ⟨hl, hb, h⟩ := h; have f1 := F.sub_list_dict; wp_walk using wpAny_loadPart' hl, wpAny_loadPart' hb, wpAny_load hl, wpAny_load hb; exact ⟨_, rfl, h⟩
theorem list_eq_declines_dict (l b : Addr) (es : Array DictEntry) (items : Array Value) (n n2 : Nat) (dd dd2 : Option Addr) (sl sl2 : Array (Option Value)) :
    Meets (Builtin.«list.__eq__» ⟨[.ref b, .ref l], []⟩) (fun _ R s => s.heap.get? l = some { cls := .type "dict", dict := dd, data := .dict es n, slots := sl } ∧ s.heap.get? b = some { cls := .type "list", dict := dd2, data := .seq items n2, slots := sl2 } ∧ R (.ok (.ret .notImplemented)) s) :=
  .of_wp fun prog w A R s h => by obtain ⟨hp, g, d, tk, os⟩ := s; obtain ⟨hl, hb, h⟩ := h; have f1 := F.sub_dict_list; wp_walk using wpAny_loadPart' hl, wpAny_loadPart' hb, wpAny_load hl, wpAny_load hb; exact ⟨_, rfl, h⟩
theorem dict_eq_declines_tuple (l b : Addr) (es : Array DictEntry) (items : Array Value) (n n2 : Nat) (dd dd2 : Option Addr) (sl sl2 : Array (Option Value)) :
    Meets (Builtin.«dict.__eq__» ⟨[.ref l, .ref b], []⟩) (fun _ R s => s.heap.get? l = some { cls := .type "dict", dict := dd, data := .dict es n, slots := sl } ∧ s.heap.get? b = some { cls := .type "tuple", dict := dd2, data := .seq items n2, slots := sl2 } ∧ R (.ok (.ret .notImplemented)) s) :=
  .of_wp fun prog w A R s h => by obtain ⟨hp, g, d, tk, os⟩ := s; obtain ⟨hl, hb, h⟩ := h; have f1 := F.sub_tuple_dict; wp_walk using wpAny_loadPart' hl, wpAny_loadPart' hb, wpAny_load hl, wpAny_load hb; exact ⟨_, rfl, h⟩
theorem tuple_eq_declines_dict (l b : Addr) (es : Array DictEntry) (items : Array Value) (n n2 : Nat) (dd dd2 : Option Addr) (sl sl2 : Array (Option Value)) :
    Meets (Builtin.«tuple.__eq__» ⟨[.ref b, .ref l], []⟩) (fun _ R s => s.heap.get? l = some { cls := .type "dict", dict := dd, data := .dict es n, slots := sl } ∧ s.heap.get? b = some { cls := .type "tuple", dict := dd2, data := .seq items n2, slots := sl2 } ∧ R (.ok (.ret .notImplemented)) s) :=
  .of_wp fun prog w A R s h => by obtain ⟨hp, g, d, tk, os⟩ := s; obtain ⟨hl, hb, h⟩ := h; have f1 := F.sub_dict_tuple; wp_walk using wpAny_loadPart' hl, wpAny_loadPart' hb, wpAny_load hl, wpAny_load hb; exact ⟨_, rfl, h⟩
section
variable {A : Around} {s : Shared}
theorem RcAt.dict_none {l : Addr}  (hl : IsDct s.heap l) (hu : A.units < cLine) : RcAt A s (.ref l) .none false := fun prog w E Q h => by
  obtain ⟨⟨cls, dd, data, sl⟩, es, n, ho, hc, hd⟩ := id hl
  simp only at hc hd
  subst hc hd
  exact rc_eq_decline_or (k := false) ⟨_, ho, rfl⟩ rfl (by decide) F.sub_NoneType_dict F.slot_dict_eq F.slot_NoneType_eq_refl
    (fun _ hq => call_meets F.slot_dict_eq ⟨_, ho, rfl⟩ F.entry_dict_eq (F.args_dict_eq_2 _ _) (dict_eq_declines_none l es n dd sl) ⟨ho, hq⟩)
    (fun _ hq => call_gives F.slot_NoneType_eq_refl rfl F.entry_NoneType_eq (F.args_NoneType_eq_2 _ _) (NoneType___eq___none_ref_0 l) hq)
    (fun _ hq => wpAny_of_eq (rfl : isSame (.ref l) .none = pure false) hq) (.inr hu) h
theorem RcAt.none_dict {l : Addr}  (hl : IsDct s.heap l) (hu : A.units < cLine) : RcAt A s .none (.ref l) false := fun prog w E Q h => by
  obtain ⟨⟨cls, dd, data, sl⟩, es, n, ho, hc, hd⟩ := id hl
  simp only at hc hd
  subst hc hd
  exact rc_eq_decline_or (k := false) rfl ⟨_, ho, rfl⟩ (by decide) F.sub_dict_NoneType F.slot_NoneType_eq F.slot_dict_eq_refl
    (fun _ hq => call_gives F.slot_NoneType_eq rfl F.entry_NoneType_eq (F.args_NoneType_eq_2 _ _) (NoneType___eq___none_ref_0 l) hq)
    (fun _ hq => call_meets F.slot_dict_eq_refl ⟨_, ho, rfl⟩ F.entry_dict_eq (F.args_dict_eq_2 _ _) (dict_eq_declines_none l es n dd sl) ⟨ho, hq⟩)
    (fun _ hq => wpAny_of_eq (rfl : isSame .none (.ref l) = pure false) hq) (.inr hu) h
theorem EqAt.dict_none {l : Addr}  (hl : IsDct s.heap l) (hu : A.units < cLine) : EqAt A s (.ref l) (.none) false := fun prog w E Q h => by
  unfold eqBool
  refine wpAny_holding ?_
  refine wpAny_ite_split (fun hab => absurd (eq_of_beq hab) nofun) (fun _ => ?_)
  exact wpAny_bind (RcAt.dict_none hl hu prog w E _ (wpAny_truthy_bool h))
theorem EqAt.none_dict {l : Addr}  (hl : IsDct s.heap l) (hu : A.units < cLine) : EqAt A s (.none) (.ref l) false := fun prog w E Q h => by
  unfold eqBool
  refine wpAny_holding ?_
  refine wpAny_ite_split (fun hab => absurd (eq_of_beq hab) nofun) (fun _ => ?_)
  exact wpAny_bind (RcAt.none_dict hl hu prog w E _ (wpAny_truthy_bool h))
theorem RcAt.dict_bool {l : Addr} (b : Bool) (hl : IsDct s.heap l) (hu : A.units < cLine) : RcAt A s (.ref l) (.bool b) false := fun prog w E Q h => by
  obtain ⟨⟨cls, dd, data, sl⟩, es, n, ho, hc, hd⟩ := id hl
  simp only at hc hd
  subst hc hd
  exact rc_eq_decline_or (k := false) ⟨_, ho, rfl⟩ rfl (by decide) F.sub_bool_dict F.slot_dict_eq F.slot_bool_eq_refl
    (fun _ hq => call_meets F.slot_dict_eq ⟨_, ho, rfl⟩ F.entry_dict_eq (F.args_dict_eq_2 _ _) (dict_eq_declines_bool l es n dd sl b) ⟨ho, hq⟩)
    (fun _ hq => call_meets F.slot_bool_eq_refl rfl F.entry_int_eq (F.args_int_eq_2 _ _) (bool_eq_declines_dict b l es n dd sl) ⟨ho, hq⟩)
    (fun _ hq => wpAny_of_eq (rfl : isSame (.ref l) (.bool b) = pure false) hq) (.inr hu) h
theorem RcAt.bool_dict {l : Addr} (b : Bool) (hl : IsDct s.heap l) (hu : A.units < cLine) : RcAt A s (.bool b) (.ref l) false := fun prog w E Q h => by
  obtain ⟨⟨cls, dd, data, sl⟩, es, n, ho, hc, hd⟩ := id hl
  simp only at hc hd
  subst hc hd
  exact rc_eq_decline_or (k := false) rfl ⟨_, ho, rfl⟩ (by decide) F.sub_dict_bool F.slot_bool_eq F.slot_dict_eq_refl
    (fun _ hq => call_meets F.slot_bool_eq rfl F.entry_int_eq (F.args_int_eq_2 _ _) (bool_eq_declines_dict b l es n dd sl) ⟨ho, hq⟩)
    (fun _ hq => call_meets F.slot_dict_eq_refl ⟨_, ho, rfl⟩ F.entry_dict_eq (F.args_dict_eq_2 _ _) (dict_eq_declines_bool l es n dd sl b) ⟨ho, hq⟩)
    (fun _ hq => wpAny_of_eq (rfl : isSame (.bool b) (.ref l) = pure false) hq) (.inr hu) h
theorem EqAt.dict_bool {l : Addr} (b : Bool) (hl : IsDct s.heap l) (hu : A.units < cLine) : EqAt A s (.ref l) ((.bool b)) false := fun prog w E Q h => by
  unfold eqBool
  refine wpAny_holding ?_
  refine wpAny_ite_split (fun hab => absurd (eq_of_beq hab) nofun) (fun _ => ?_)
  exact wpAny_bind (RcAt.dict_bool b hl hu prog w E _ (wpAny_truthy_bool h))
theorem EqAt.bool_dict {l : Addr} (b : Bool) (hl : IsDct s.heap l) (hu : A.units < cLine) : EqAt A s ((.bool b)) (.ref l) false := fun prog w E Q h => by
  unfold eqBool
  refine wpAny_holding ?_
  refine wpAny_ite_split (fun hab => absurd (eq_of_beq hab) nofun) (fun _ => ?_)
  exact wpAny_bind (RcAt.bool_dict b hl hu prog w E _ (wpAny_truthy_bool h))
theorem RcAt.dict_int {l : Addr} (b : Int) (u : Tok) (hl : IsDct s.heap l) (hu : A.units < cLine) : RcAt A s (.ref l) (.int b u) false := fun prog w E Q h => by
  obtain ⟨⟨cls, dd, data, sl⟩, es, n, ho, hc, hd⟩ := id hl
  simp only at hc hd
  subst hc hd
  exact rc_eq_decline_or (k := false) ⟨_, ho, rfl⟩ (typeIs_int s b u) (by decide) F.sub_int_dict F.slot_dict_eq F.slot_int_eq_refl
    (fun _ hq => call_meets F.slot_dict_eq ⟨_, ho, rfl⟩ F.entry_dict_eq (F.args_dict_eq_2 _ _) (dict_eq_declines_int l es n dd sl b u) ⟨ho, hq⟩)
    (fun _ hq => call_meets F.slot_int_eq_refl (typeIs_int s b u) F.entry_int_eq (F.args_int_eq_2 _ _) (int_eq_declines_dict b u l es n dd sl) ⟨ho, hq⟩)
    (fun _ hq => wpAny_of_eq (rfl : isSame (.ref l) (.int b u) = pure false) hq) (.inr hu) h
theorem RcAt.int_dict {l : Addr} (b : Int) (u : Tok) (hl : IsDct s.heap l) (hu : A.units < cLine) : RcAt A s (.int b u) (.ref l) false := fun prog w E Q h => by
  obtain ⟨⟨cls, dd, data, sl⟩, es, n, ho, hc, hd⟩ := id hl
  simp only at hc hd
  subst hc hd
  exact rc_eq_decline_or (k := false) (typeIs_int s b u) ⟨_, ho, rfl⟩ (by decide) F.sub_dict_int F.slot_int_eq F.slot_dict_eq_refl
    (fun _ hq => call_meets F.slot_int_eq (typeIs_int s b u) F.entry_int_eq (F.args_int_eq_2 _ _) (int_eq_declines_dict b u l es n dd sl) ⟨ho, hq⟩)
    (fun _ hq => call_meets F.slot_dict_eq_refl ⟨_, ho, rfl⟩ F.entry_dict_eq (F.args_dict_eq_2 _ _) (dict_eq_declines_int l es n dd sl b u) ⟨ho, hq⟩)
    (fun _ hq => wpAny_of_eq (rfl : isSame (.int b u) (.ref l) = pure false) hq) (.inr hu) h
theorem EqAt.dict_int {l : Addr} (b : Int) (u : Tok) (hl : IsDct s.heap l) (hu : A.units < cLine) : EqAt A s (.ref l) ((.int b u)) false := fun prog w E Q h => by
  unfold eqBool
  refine wpAny_holding ?_
  refine wpAny_ite_split (fun hab => absurd (eq_of_beq hab) nofun) (fun _ => ?_)
  exact wpAny_bind (RcAt.dict_int b u hl hu prog w E _ (wpAny_truthy_bool h))
theorem EqAt.int_dict {l : Addr} (b : Int) (u : Tok) (hl : IsDct s.heap l) (hu : A.units < cLine) : EqAt A s ((.int b u)) (.ref l) false := fun prog w E Q h => by
  unfold eqBool
  refine wpAny_holding ?_
  refine wpAny_ite_split (fun hab => absurd (eq_of_beq hab) nofun) (fun _ => ?_)
  exact wpAny_bind (RcAt.int_dict b u hl hu prog w E _ (wpAny_truthy_bool h))
theorem RcAt.dict_str {l : Addr} (b : Str) (u : Tok) (hl : IsDct s.heap l) (hu : A.units < cLine) : RcAt A s (.ref l) (.str b u) false := fun prog w E Q h => by
  obtain ⟨⟨cls, dd, data, sl⟩, es, n, ho, hc, hd⟩ := id hl
  simp only at hc hd
  subst hc hd
  exact rc_eq_decline_or (k := false) ⟨_, ho, rfl⟩ (typeIs_str s b u) (by decide) F.sub_str_dict F.slot_dict_eq F.slot_str_eq_refl
    (fun _ hq => call_meets F.slot_dict_eq ⟨_, ho, rfl⟩ F.entry_dict_eq (F.args_dict_eq_2 _ _) (dict_eq_declines_str l es n dd sl b u) ⟨ho, hq⟩)
    (fun _ hq => call_meets F.slot_str_eq_refl (typeIs_str s b u) F.entry_str_eq (F.args_str_eq_2 _ _) (str_eq_declines_dict b u l es n dd sl) ⟨ho, hq⟩)
    (fun _ hq => wpAny_of_eq (rfl : isSame (.ref l) (.str b u) = pure false) hq) (.inr hu) h
theorem RcAt.str_dict {l : Addr} (b : Str) (u : Tok) (hl : IsDct s.heap l) (hu : A.units < cLine) : RcAt A s (.str b u) (.ref l) false := fun prog w E Q h => by
  obtain ⟨⟨cls, dd, data, sl⟩, es, n, ho, hc, hd⟩ := id hl
  simp only at hc hd
  subst hc hd
  exact rc_eq_decline_or (k := false) (typeIs_str s b u) ⟨_, ho, rfl⟩ (by decide) F.sub_dict_str F.slot_str_eq F.slot_dict_eq_refl
    (fun _ hq => call_meets F.slot_str_eq (typeIs_str s b u) F.entry_str_eq (F.args_str_eq_2 _ _) (str_eq_declines_dict b u l es n dd sl) ⟨ho, hq⟩)
    (fun _ hq => call_meets F.slot_dict_eq_refl ⟨_, ho, rfl⟩ F.entry_dict_eq (F.args_dict_eq_2 _ _) (dict_eq_declines_str l es n dd sl b u) ⟨ho, hq⟩)
    (fun _ hq => wpAny_of_eq (rfl : isSame (.str b u) (.ref l) = pure false) hq) (.inr hu) h
theorem EqAt.dict_str {l : Addr} (b : Str) (u : Tok) (hl : IsDct s.heap l) (hu : A.units < cLine) : EqAt A s (.ref l) ((.str b u)) false := fun prog w E Q h => by
  unfold eqBool
  refine wpAny_holding ?_
  refine wpAny_ite_split (fun hab => absurd (eq_of_beq hab) nofun) (fun _ => ?_)
  exact wpAny_bind (RcAt.dict_str b u hl hu prog w E _ (wpAny_truthy_bool h))
theorem EqAt.str_dict {l : Addr} (b : Str) (u : Tok) (hl : IsDct s.heap l) (hu : A.units < cLine) : EqAt A s ((.str b u)) (.ref l) false := fun prog w E Q h => by
  unfold eqBool
  refine wpAny_holding ?_
  refine wpAny_ite_split (fun hab => absurd (eq_of_beq hab) nofun) (fun _ => ?_)
  exact wpAny_bind (RcAt.str_dict b u hl hu prog w E _ (wpAny_truthy_bool h))
theorem ne_dct_list {l b : Addr} {items : Array Value} (hl : IsDct s.heap l) (hb : s.heap.IsList b items) : l ≠ b := fun e => by
  subst e
  obtain ⟨o, es, n, ho, hc, _⟩ := hl
  obtain ⟨o2, ho2, hc2, _⟩ := hb
  rw [ho] at ho2
  cases ho2
  rw [hc] at hc2
  exact absurd hc2 (by simp)
theorem RcAt.dict_list {l b : Addr} {items : Array Value} (hl : IsDct s.heap l) (hb : s.heap.IsList b items) (hu : A.units < cLine) : RcAt A s (.ref l) (.ref b) false := fun prog w E Q h => by
  have hne := ne_dct_list hl hb
  obtain ⟨⟨cls, dd, data, sl⟩, es, n, ho, hc, hd⟩ := id hl
  simp only at hc hd
  subst hc hd
  obtain ⟨⟨cls2, dd2, data2, sl2⟩, ho2, hc2, n2, hd2⟩ := id hb
  simp only at hc2 hd2
  subst hc2 hd2
  exact (rc_eq_decline_or (k := false) ⟨_, ho, rfl⟩ ⟨_, ho2, rfl⟩ (by decide) F.sub_list_dict F.slot_dict_eq F.slot_list_eq_refl
    (fun _ hq => call_meets F.slot_dict_eq ⟨_, ho, rfl⟩ F.entry_dict_eq (F.args_dict_eq_2 _ _) (dict_eq_declines_list l b es items n n2 dd dd2 sl sl2) ⟨ho, ho2, hq⟩)
    (fun _ hq => call_meets F.slot_list_eq_refl ⟨_, ho2, rfl⟩ F.entry_list_eq (F.args_list_eq_2 _ _) (list_eq_declines_dict l b es items n n2 dd dd2 sl sl2) ⟨ho, ho2, hq⟩)
    (fun _ hq => wpAny_isSame_ref_other hne ho ho2 (by simp) hq) (.inr hu) h)
theorem RcAt.list_dict {l b : Addr} {items : Array Value} (hl : IsDct s.heap l) (hb : s.heap.IsList b items) (hu : A.units < cLine) : RcAt A s (.ref b) (.ref l) false := fun prog w E Q h => by
  have hne : b ≠ l := (ne_dct_list hl hb).symm
  obtain ⟨⟨cls, dd, data, sl⟩, es, n, ho, hc, hd⟩ := id hl
  simp only at hc hd
  subst hc hd
  obtain ⟨⟨cls2, dd2, data2, sl2⟩, ho2, hc2, n2, hd2⟩ := id hb
  simp only at hc2 hd2
  subst hc2 hd2
  exact (rc_eq_decline_or (k := false) ⟨_, ho2, rfl⟩ ⟨_, ho, rfl⟩ (by decide) F.sub_dict_list F.slot_list_eq F.slot_dict_eq_refl
    (fun _ hq => call_meets F.slot_list_eq ⟨_, ho2, rfl⟩ F.entry_list_eq (F.args_list_eq_2 _ _) (list_eq_declines_dict l b es items n n2 dd dd2 sl sl2) ⟨ho, ho2, hq⟩)
    (fun _ hq => call_meets F.slot_dict_eq_refl ⟨_, ho, rfl⟩ F.entry_dict_eq (F.args_dict_eq_2 _ _) (dict_eq_declines_list l b es items n n2 dd dd2 sl sl2) ⟨ho, ho2, hq⟩)
    (fun _ hq => wpAny_isSame_ref_other' hne ho2 ho (by simp) hq) (.inr hu) h)
theorem ne_dct_tuple {l b : Addr} {items : Array Value} (hl : IsDct s.heap l) (hb : s.heap.IsTuple b items) : l ≠ b := fun e => by
  subst e
  obtain ⟨o, es, n, ho, hc, _⟩ := hl
  obtain ⟨o2, ho2, hc2, _⟩ := hb
  rw [ho] at ho2
  cases ho2
  rw [hc] at hc2
  exact absurd hc2 (by simp)
theorem RcAt.dict_tuple {l b : Addr} {items : Array Value} (hl : IsDct s.heap l) (hb : s.heap.IsTuple b items) (hu : A.units < cLine) : RcAt A s (.ref l) (.ref b) false := fun prog w E Q h => by
  have hne := ne_dct_tuple hl hb
  obtain ⟨⟨cls, dd, data, sl⟩, es, n, ho, hc, hd⟩ := id hl
  simp only at hc hd
  subst hc hd
  obtain ⟨⟨cls2, dd2, data2, sl2⟩, ho2, hc2, n2, hd2⟩ := id hb
  simp only at hc2 hd2
  subst hc2 hd2
  exact (rc_eq_decline_or (k := false) ⟨_, ho, rfl⟩ ⟨_, ho2, rfl⟩ (by decide) F.sub_tuple_dict F.slot_dict_eq F.slot_tuple_eq_refl
    (fun _ hq => call_meets F.slot_dict_eq ⟨_, ho, rfl⟩ F.entry_dict_eq (F.args_dict_eq_2 _ _) (dict_eq_declines_tuple l b es items n n2 dd dd2 sl sl2) ⟨ho, ho2, hq⟩)
    (fun _ hq => call_meets F.slot_tuple_eq_refl ⟨_, ho2, rfl⟩ F.entry_tuple_eq (F.args_tuple_eq_2 _ _) (tuple_eq_declines_dict l b es items n n2 dd dd2 sl sl2) ⟨ho, ho2, hq⟩)
    (fun _ hq => wpAny_isSame_ref_other hne ho ho2 (by simp) hq) (.inr hu) h)
theorem RcAt.tuple_dict {l b : Addr} {items : Array Value} (hl : IsDct s.heap l) (hb : s.heap.IsTuple b items) (hu : A.units < cLine) : RcAt A s (.ref b) (.ref l) false := fun prog w E Q h => by
  have hne : b ≠ l := (ne_dct_tuple hl hb).symm
  obtain ⟨⟨cls, dd, data, sl⟩, es, n, ho, hc, hd⟩ := id hl
  simp only at hc hd
  subst hc hd
  obtain ⟨⟨cls2, dd2, data2, sl2⟩, ho2, hc2, n2, hd2⟩ := id hb
  simp only at hc2 hd2
  subst hc2 hd2
  exact (rc_eq_decline_or (k := false) ⟨_, ho2, rfl⟩ ⟨_, ho, rfl⟩ (by decide) F.sub_dict_tuple F.slot_tuple_eq F.slot_dict_eq_refl
    (fun _ hq => call_meets F.slot_tuple_eq ⟨_, ho2, rfl⟩ F.entry_tuple_eq (F.args_tuple_eq_2 _ _) (tuple_eq_declines_dict l b es items n n2 dd dd2 sl sl2) ⟨ho, ho2, hq⟩)
    (fun _ hq => call_meets F.slot_dict_eq_refl ⟨_, ho, rfl⟩ F.entry_dict_eq (F.args_dict_eq_2 _ _) (dict_eq_declines_tuple l b es items n n2 dd dd2 sl sl2) ⟨ho, ho2, hq⟩)
    (fun _ hq => wpAny_isSame_ref_other' hne ho2 ho (by simp) hq) (.inr hu) h)
end
end PySem.SeqAt

set_option linter.all false
set_option Elab.async false
set_option maxRecDepth 100000
set_option maxHeartbeats 2000000
/-! DPrim: the operations of the small language, shown by the hand layer's rules. -/
namespace DC
open PySem L2 PySem.Spec PyProof.Rows
theorem le_sl {n : Nat} (h : n ≤ maxLen) : n ≤ sizeLine := by rw [sizeLine_eq]; exact h

/-! ### + - * % // -/
def opA : Op → Operator
  | .add => .Add
  | .sub => .Sub
  | .mul => .Mult
  | .fdiv => .FloorDiv
  | .mod => .Mod
theorem lstOf_cases {h : List Cell} {a b : D} (h1 : ∀ as bs, ¬ (a = .tup as ∧ b = .tup bs)) (e : addD h a b = some d) (hi : ∀ i j, ¬ (a = .int i ∧ b = .int j)) (hs : ∀ x y, ¬ (a = .str x ∧ b = .str y)) :
    ∃ as bs, lstOf h a = some as ∧ lstOf h b = some bs ∧ as.length + bs.length ≤ maxLen ∧ d = .lst (as ++ bs) := by
  unfold addD at e
  split at e
  · exact absurd ⟨rfl, rfl⟩ (hi _ _)
  · exact absurd ⟨rfl, rfl⟩ (hs _ _)
  · exact absurd ⟨rfl, rfl⟩ (h1 _ _)
  · split at e
    · split at e
      · exact ⟨_, _, by assumption, by assumption, by assumption, (Option.some.inj e).symm⟩
      · cases e
    · cases e
section
variable {X : Cx}
theorem foldl_arr (c : List Nat) : ∀ (k : Nat) (acc : List Nat), (List.replicate k c.toArray).foldl (fun x1 x2 => x1 ++ x2) acc.toArray = (acc ++ (List.replicate k c).flatten).toArray
  | 0, acc => by simp
  | k + 1, acc => by
    rw [List.replicate_succ, List.foldl_cons, show acc.toArray ++ c.toArray = (acc ++ c).toArray by simp, foldl_arr c k (acc ++ c), List.replicate_succ, List.flatten_cons, List.append_assoc]
theorem len_flat_str (z : Str) (k : Nat) : ((List.replicate k z.cps).foldl (· ++ ·) #[]) = ((List.replicate k z.cps.toList).flatten).toArray := by
  have h := foldl_arr z.cps.toList k []
  simpa using h
theorem op_strRep : OpR X (binaryOp .Mult) (fun x y H Q => ∃ z k, x = .str z ∧ y = .int k ∧ 1 ≤ k ∧ k ≤ 1000 ∧ z.length ≤ 1000 ∧ Q (.str ⟨((List.replicate k.toNat z.cps.toList).flatten).toArray⟩) H) := by
  intro pins s σ H x y v u Q I rx ry h
  obtain ⟨z, k, rfl, rfl, h1, h2, h3, q⟩ := h
  obtain ⟨t, rfl⟩ := rx
  obtain ⟨t', rfl⟩ := ry
  have hl : z.length * k.toNat ≤ 1000000 := by
    have : z.length * k.toNat ≤ 1000 * 1000 := Nat.mul_le_mul h3 (by omega)
    omega
  refine PySem.P.mul_str (by rw [decide_eq_false (by omega), decide_eq_false (by omega)]; rfl) (fun _ _ => ?_) (fun _ _ => ?_) ?_
  · have : (1000 : Int) ≤ (2 ^ 63 - 1) / k := by
      refine Int.le_ediv_of_mul_le (by omega) ?_
      omega
    omega
  · unfold Builtin.Str.tooLong
    rw [sizeLine_eq]
    exact decide_eq_false (by omega)
  · rw [if_neg (by omega)]
    by_cases hk : (k == 1 || z.length == 0) = true
    · rw [if_pos hk]
      have e : (⟨((List.replicate k.toNat z.cps.toList).flatten).toArray⟩ : Str) = z := by
        obtain ⟨c⟩ := z
        rw [Bool.or_eq_true] at hk
        rcases hk with hk | hk
        · have : k = 1 := by simpa using hk
          subst this
          simp
        · have : c = #[] := by
            have : c.size = 0 := by simpa [Str.length] using hk
            exact Array.eq_empty_of_size_eq_zero this
          subst this
          simp
      rw [e] at q
      exact ⟨.str z, H, I, ⟨_, rfl⟩, q⟩
    · rw [if_neg hk]
      refine ⟨?_, .str _, H, I.tok _, ⟨_, rfl⟩, ?_⟩
      · rw [len_flat_str, sizeLine_eq]
        show (((List.replicate k.toNat z.cps.toList).flatten).toArray).size ≤ _
        have : ((List.replicate k.toNat z.cps.toList).flatten).length = k.toNat * z.cps.toList.length := by simp
        have e2 : z.cps.toList.length = z.length := by simp [Str.length]
        rw [List.size_toArray, this, e2, Nat.mul_comm]
        omega
      · rw [len_flat_str]
        exact q
theorem tuple_mulSame (l : Addr) (items : Array Value) (n : Nat) (dd : Option Addr) (sl : Array (Option Value)) (x : Int) (u : Tok) (c0 : (decide (x < -(2 ^ 63)) || decide (x ≥ 2 ^ 63)) = false) (c1 : (items.isEmpty || x == 1) = true) :
    Meets (Builtin.«tuple.__mul__» ⟨[.ref l, .int x u], []⟩) (fun _ R s => s.heap.get? l = some { cls := .type "tuple", dict := dd, data := .seq items n, slots := sl } ∧
      R (.ok (.ret (Value.ref l))) s) :=
  .of_wp fun prog w A R s h => by
    obtain ⟨hp, g, d, tk, os⟩ := s
    obtain ⟨hl, h⟩ := h
    have f1 := AutoSeq1.idx_int
    wp_walk using AutoSeq1.wpAny_loadPart' hl
    repeat (first
      | (refine wpAny_ite_false (decide_eq_false (by rw [c0]; exact Bool.false_ne_true)) ?_; wp_walk using AutoSeq1.wpAny_loadPart' hl)
      | (refine wpAny_ite_true (decide_eq_true c1) ?_; wp_walk using AutoSeq1.wpAny_loadPart' hl))
    all_goals first
      | exact ⟨_, rfl, h⟩
      | trace_state
theorem str_app_len (a b : Str) : (a ++ b).length = a.length + b.length := by
  obtain ⟨x⟩ := a
  obtain ⟨y⟩ := b
  show (x ++ y).size = x.size + y.size
  simp
theorem op_addD : OpR X (binaryOp .Add) (rB X.K (binD .add)) := by
  intro pins s σ H x y v u Q I rx ry hh
  obtain ⟨R, G, μ, Γ, h, σ', a, b, d, S, ra, rb, e, q⟩ := hh
  change addD h a b = some d at e
  by_cases hi : ∃ i j, a = .int i ∧ b = .int j
  · obtain ⟨i, j, rfl, rfl⟩ := hi
    have ex := int_at ra
    have ey := int_at rb
    subst ex ey
    cases e
    exact op_add pins s σ H _ _ v u Q I rx ry ⟨i, j, rfl, rfl, q _ G H S .refl rfl⟩
  by_cases hs : ∃ i j, a = .str i ∧ b = .str j
  · obtain ⟨i, j, rfl, rfl⟩ := hs
    obtain ⟨ex, lx⟩ := str_at ra
    obtain ⟨ey, ly⟩ := str_at rb
    subst ex ey
    change strCat i j = some d at e
    unfold strCat at e
    split at e
    · rename_i hz
      cases e
      exact op_add_str pins s σ H _ _ v u Q I rx ry ⟨i, j, rfl, rfl, le_sl hz, q _ G H S .refl ⟨rfl, by rw [str_app_len]; exact hz⟩⟩
    · cases e
  by_cases ht : ∃ as bs, a = .tup as ∧ b = .tup bs
  · obtain ⟨as, bs, rfl, rfl⟩ := ht
    obtain ⟨p, vs, rfl, hp, lp, tp, rp⟩ := tup_at S ra
    obtain ⟨p2, vs2, rfl, hp2, lp2, tp2, rp2⟩ := tup_at S rb
    change (if as.length + bs.length ≤ maxLen then some (D.tup (as ++ bs)) else none) = some d at e
    split at e
    · rename_i hz
      cases e
      have l1 := tp.len
      have l2 := tp2.len
      refine op_catA pins s σ H _ _ v u Q I rx ry ⟨p, p2, vs, vs2, rfl, rfl, hp, hp2, le_sl (by omega), fun e0 => ?_, fun _ e0 => ?_, fun _ _ z hz0 => ?_⟩
      · subst e0
        have : as = [] := List.eq_nil_of_length_eq_zero l1
        subst this
        exact q _ G H S .refl rp2
      · subst e0
        have : bs = [] := List.eq_nil_of_length_eq_zero l2
        subst this
        rw [List.append_nil] at q
        exact q _ G H S .refl rp
      · obtain ⟨S1, X1, r1⟩ := new_tup (ds := as ++ bs) (by rw [List.length_append]; exact hz) (tp.app tp2) hz0 S
        exact q _ _ _ S1 X1 r1
    · cases e
  · obtain ⟨as, bs, ea, eb, hz, rfl⟩ := lstOf_cases (fun as bs z => ht ⟨as, bs, z.1, z.2⟩) e (fun i j z => hi ⟨i, j, z.1, z.2⟩) (fun i j z => hs ⟨i, j, z.1, z.2⟩)
    obtain ⟨p, vs, rfl, hp, lp, tp⟩ := lst_at S ra ea
    obtain ⟨p2, vs2, rfl, hp2, lp2, tp2⟩ := lst_at S rb eb
    have l1 := tp.len
    have l2 := tp2.len
    refine op_cat pins s σ H _ _ v u Q I rx ry ⟨p, p2, vs, vs2, rfl, rfl, hp, hp2, le_sl (by omega), fun z hz0 => ?_⟩
    obtain ⟨S1, X1, r1⟩ := new_lst (ds := as ++ bs) (by rw [List.length_append]; exact hz) (tp.app tp2) hz0 S
    exact q _ _ _ S1 X1 r1
theorem op_repT1 : OpR X (binaryOp .Mult) (fun x y H Q => ∃ l k xs, x = .ref l ∧ y = .int k ∧ SqT X.K H l xs ∧ (xs = [] ∨ k = 1) ∧ 1 ≤ k ∧ k ≤ 1000 ∧ Q (.ref l) H) := by
  intro pins s σ H x y v u Q I rx ry h
  obtain ⟨l, k, xs, rfl, rfl, hT, hne, h1, h2, q⟩ := h
  cases rx
  obtain ⟨t, rfl⟩ := ry
  obtain ⟨its, r, ⟨⟨cls, dd, data, sl⟩, ho, hc, n, hd⟩, hs⟩ := I.tuple hT
  simp only at hc hd
  subst hc hd
  have c0 : (decide (k < -(2 ^ 63)) || decide (k ≥ 2 ^ 63)) = false := by
    rw [decide_eq_false (by omega), decide_eq_false (by omega)] <;> rfl
  have c1 : (its.toArray.isEmpty || k == 1) = true := by
    rcases hne with rfl | rfl
    · cases r
      rfl
    · simp
  refine wpAny_binaryOp_repeat_ref (T := "tuple") (U := "int") (by decide) ⟨_, ho, rfl⟩ (fun s' => typeIs_int s' k t) noFill_tuple_mul F.fills_int_mul F.slot_int_rmul repeat_tuple F.slot_int_index.lookup
    (call_meets F.slot_int_rmul (typeIs_int s k t) F.entry_int_rmul (F.args_int_rmul_2 _ _) (int_rmul_tuple k t l its.toArray n dd sl)
      ⟨ho, rfl, ⟨_, ho, rfl⟩, call_meets F.slot_tuple_mul ⟨_, ho, rfl⟩ F.entry_tuple_mul (F.args_tuple_mul_2 _ _) (tuple_mulSame l its.toArray n dd sl k t c0 c1) ⟨ho, ?_⟩⟩)
  exact ⟨.ref l, H, I, rfl, q⟩
theorem op_mulD : OpR X (binaryOp .Mult) (rB X.K (binD .mul)) := by
  intro pins s σ H x y v u Q I rx ry hh
  obtain ⟨R, G, μ, Γ, h, σ', a, b, d, S, ra, rb, e, q⟩ := hh
  change mulD h a b = some d at e
  unfold mulD at e
  split at e
  · rename_i i j
    have ex := int_at ra
    have ey := int_at rb
    subst ex ey
    split at e
    · rename_i hf
      cases e
      refine op_mul pins s σ H _ _ v u Q I rx ry ⟨i, j, rfl, rfl, ?_, q _ G H S .refl rfl⟩
      rw [Bool.or_eq_true] at hf
      unfold intFits at hf
      simp only [Bool.and_eq_true, decide_eq_true_eq] at hf
      exact hf
    · cases e
  · rename_i z k
    obtain ⟨ex, lx⟩ := str_at ra
    have ey := int_at rb
    subst ex ey
    unfold strRep at e
    split at e
    · rename_i hz
      cases e
      refine op_strRep pins s σ H _ _ v u Q I rx ry ⟨z, k, rfl, rfl, hz.1, hz.2.1, hz.2.2, q _ G H S .refl ⟨rfl, ?_⟩⟩
      show (((List.replicate k.toNat z.cps.toList).flatten).toArray).size ≤ _
      have : ((List.replicate k.toNat z.cps.toList).flatten).length = k.toNat * z.cps.toList.length := by simp
      have e2 : z.cps.toList.length = z.length := by simp [Str.length]
      rw [List.size_toArray, this, e2]
      have : k.toNat * z.length ≤ 1000 * 1000 := Nat.mul_le_mul (by omega) hz.2.2
      show _ ≤ 16777216
      omega
    · cases e
  · rename_i as k
    obtain ⟨p, vs, rfl, hp, lp, tp, rp⟩ := tup_at S ra
    have ey := int_at rb
    subst ey
    split at e
    · rename_i hz
      cases e
      have l1 := tp.len
      by_cases h0 : vs = [] ∨ k = 1
      · refine op_repT1 pins s σ H _ _ v u Q I rx ry ⟨p, k, vs, rfl, rfl, hp, h0, hz.2.1, hz.2.2, q _ G H S .refl ?_⟩
        have ee : (List.replicate k.toNat as).flatten = as := by
          rcases h0 with h0 | h0
          · subst h0
            have : as = [] := List.eq_nil_of_length_eq_zero l1
            subst this
            simp
          · subst h0
            simp
        rw [ee]
        exact rp
      · refine op_repT pins s σ H _ _ v u Q I rx ry ⟨p, k, vs, rfl, rfl, hp, fun z => h0 (.inl z), ?_, hz.2.2, by omega, fun z hz0 => ?_⟩
        · have : k ≠ 1 := fun z => h0 (.inr z)
          omega
        · obtain ⟨S1, X1, r1⟩ := new_tup (ds := (List.replicate k.toNat as).flatten) (by
            have : ((List.replicate k.toNat as).flatten).length = k.toNat * as.length := by simp
            rw [this]
            have : k.toNat * as.length ≤ 1000 * 1000 := Nat.mul_le_mul (by omega) hz.1
            show _ ≤ 16777216
            omega) (tp.rep k.toNat) hz0 S
          exact q _ _ _ S1 X1 r1
    · cases e
  · cases e
theorem op_bin (o : Op) : OpR X (binaryOp (opA o)) (rB X.K (binD o)) := by
  cases o with
  | add => exact op_addD
  | mul => exact op_mulD
  | sub =>
    intro pins s σ H x y v u Q I rx ry hh
    obtain ⟨R, G, μ, Γ, h, σ', a, b, d, S, ra, rb, e, q⟩ := hh
    unfold binD at e
    simp only at e
    split at e
    · rename_i i j
      have ex := int_at ra
      have ey := int_at rb
      subst ex ey
      cases e
      exact op_sub pins s σ H _ _ v u Q I rx ry ⟨i, j, rfl, rfl, q _ G H S .refl rfl⟩
    · cases e
  | mod =>
    intro pins s σ H x y v u Q I rx ry hh
    obtain ⟨R, G, μ, Γ, h, σ', a, b, d, S, ra, rb, e, q⟩ := hh
    unfold binD at e
    simp only at e
    split at e
    · rename_i i j
      have ex := int_at ra
      have ey := int_at rb
      subst ex ey
      split at e
      · rename_i hz
        cases e
        exact op_mod pins s σ H _ _ v u Q I rx ry ⟨i, j, rfl, rfl, hz, q _ G H S .refl rfl⟩
      · cases e
    · cases e
  | fdiv =>
    intro pins s σ H x y v u Q I rx ry hh
    obtain ⟨R, G, μ, Γ, h, σ', a, b, d, S, ra, rb, e, q⟩ := hh
    unfold binD at e
    simp only at e
    split at e
    · rename_i i j
      have ex := int_at ra
      have ey := int_at rb
      subst ex ey
      split at e
      · rename_i hz
        cases e
        exact op_fdivW pins s σ H _ _ v u Q I rx ry ⟨i, j, rfl, rfl, wide_div (b := 64) hz.1 (by omega) (by decide) (by decide), q _ G H S .refl rfl⟩
      · cases e
    · cases e
end
end DC

set_option linter.all false
set_option Elab.async false
set_option maxRecDepth 100000
set_option maxHeartbeats 1000000
/-! DCmp: == at any depth, in, and the other comparisons of the small language. -/
namespace DC
open PySem L2 PySem.Spec PyProof.Rows PySem.SeqAt

section
variable {K : PySem.W.Frag} {R : Fr} {G : Hp} {μ : List Addr} {Γ : List Slot} {h : List Cell} {σ : L2.St} {H : Hp}
/-- as it lies in the whole heap -/
theorem RW.toH (S : Sim K R G μ Γ h σ H) {d : D} {v : V} (r : RW K Γ σ G μ H d v) : RD K H μ d v := by
  rcases r with r | ⟨i, c, a, h1, h2, h3, h4, h5⟩
  · exact r.mono S.gh (List.prefix_refl _)
  · subst h4 h3
    exact h5.frz S.gh rfl
end
theorem depth_mem : ∀ {ds : List D} {d : D}, d ∈ ds → d.depth ≤ depthL ds
  | [], d, hd => by cases hd
  | e :: ds, d, hd => by
    rw [depthL]
    rcases List.mem_cons.mp hd with rfl | hd
    · exact Nat.le_max_left _ _
    · exact Nat.le_trans (depth_mem hd) (Nat.le_max_right _ _)
def eqJ (as bs : List D) (j : Nat) : Bool := match as[j]?, bs[j]? with
  | some a, some b => (eqD a b).getD false
  | _, _ => false
theorem eqZ_at : ∀ {as bs : List D} {x : Bool}, eqZ as bs = some x → ∀ (j : Nat) (a b : D), as[j]? = some a → bs[j]? = some b → eqD a b = some (eqJ as bs j)
  | [], bs, x, _, j, a, b, h1, _ => by simp at h1
  | a :: as, [], x, _, j, c, b, _, h2 => by simp at h2
  | a :: as, b :: bs, x, h, j, c, d, h1, h2 => by
    rw [eqZ] at h
    cases e1 : eqD a b with
    | none => rw [e1] at h; cases h
    | some y =>
      cases e2 : eqZ as bs with
      | none => rw [e1, e2] at h; cases h
      | some z =>
        cases j with
        | zero =>
          simp at h1 h2
          subst h1 h2
          simp [eqJ, e1]
        | succ j =>
          have := eqZ_at e2 j c d (by simpa using h1) (by simpa using h2)
          simpa [eqJ] using this
theorem eqZ_all : ∀ {as bs : List D} {x : Bool}, eqZ as bs = some x → (List.range (min as.length bs.length)).all (eqJ as bs) = x
  | [], bs, x, h => by
    rw [eqZ] at h
    · cases h
      simp
    · intros; simp_all
  | a :: as, [], x, h => by
    rw [eqZ] at h
    · cases h
      simp
    · intros; simp_all
  | a :: as, b :: bs, x, h => by
    rw [eqZ] at h
    cases e1 : eqD a b with
    | none => rw [e1] at h; cases h
    | some y =>
      cases e2 : eqZ as bs with
      | none => rw [e1, e2] at h; cases h
      | some z =>
        rw [e1, e2] at h
        cases h
        have ih := eqZ_all e2
        rw [List.length_cons, List.length_cons, Nat.succ_min_succ, List.range_succ_eq_map, List.all_cons, List.all_map]
        have e0 : eqJ (a :: as) (b :: bs) 0 = y := by simp [eqJ, e1]
        have e3 : (eqJ (a :: as) (b :: bs)) ∘ Nat.succ = eqJ as bs := by
          funext j
          simp [eqJ]
        rw [e0, e3, ih]

section
variable {X : Cx} {pins : List (Addr × Obj)} {σ : L2.St} {H : Hp} {s : Shared} {μ : List Addr}
/-- the kind of what stands there -/
def clsD : D → Option String
  | .tup _ => some "tuple"
  | .lst _ => some "list"
  | .scr _ => some "list"
  | .dct _ _ => some "dict"
  | _ => none
theorem cls_at (I : Inv X pins σ H s) {d : D} {v : V} (r : RD X.K H μ d v) {c : String} (e : clsD d = some c) : ∃ a o, v = .ref a ∧ s.heap.get? a = some o ∧ o.cls = .type c := by
  cases d with
  | tup ds =>
    cases e
    obtain ⟨a, vs, rfl, q, _⟩ := r
    obtain ⟨its, _, ⟨o, ho, hc, _⟩, _⟩ := I.tuple q
    exact ⟨a, o, rfl, ho, hc⟩
  | lst ds =>
    cases e
    obtain ⟨a, vs, rfl, q, _⟩ := r
    obtain ⟨its, _, ⟨o, n, ho, hc, _⟩, _⟩ := I.list (SqL.of q)
    exact ⟨a, o, rfl, ho, hc⟩
  | scr ds =>
    cases e
    obtain ⟨a, vs, rfl, q, _⟩ := r
    obtain ⟨its, _, ⟨o, n, ho, hc, _⟩, _⟩ := I.list q
    exact ⟨a, o, rfl, ho, hc⟩
  | dct ks xs =>
    cases e
    obtain ⟨a, kvs, rfl, q, _⟩ := r
    obtain ⟨_, _, vs, _, o, es, ep, h1, h2, _⟩ := (show ObjOk X.prog X.w H s.heap a (.dK kvs) from I.hok a _ q)
    exact ⟨a, o, rfl, h1, h2.1⟩
  | _ => cases e
theorem cls_ne (I : Inv X pins σ H s) {d e : D} {v : V} (r : RD X.K H μ d v) (r' : RD X.K H μ e v) {c c' : String} (h : clsD d = some c) (h' : clsD e = some c') : c = c' := by
  obtain ⟨a, o, ev, ho, hc⟩ := cls_at I r h
  obtain ⟨a', o', ev', ho', hc'⟩ := cls_at I r' h'
  rw [ev] at ev'
  cases ev'
  rw [ho] at ho'
  cases ho'
  rw [hc] at hc'
  injection hc'
theorem ref_of (I : Inv X pins σ H s) {d : D} {v : V} (r : RD X.K H μ d v) {c : String} (h : clsD d = some c) : ∃ a, v = .ref a := by
  obtain ⟨a, _, e, _⟩ := cls_at I r h
  exact ⟨a, e⟩
/-- the kind of a thing, by what its value tells -/
def tagD : D → Nat
  | .non => 0
  | .bl _ => 1
  | .int _ => 2
  | .str _ => 3
  | .tup _ => 4
  | .lst _ => 5
  | .scr _ => 5
  | .dct _ _ => 6
  | .ref _ => 7
theorem tag_cls : ∀ {d : D}, 4 ≤ tagD d → tagD d < 7 → clsD d = some (if tagD d = 4 then "tuple" else if tagD d = 5 then "list" else "dict") := by
  intro d h1 h2
  cases d <;> simp [tagD] at h1 h2 <;> rfl
def tagV : V → Nat
  | .non => 0
  | .bl _ => 1
  | .int _ => 2
  | .str _ => 3
  | .ref _ => 4
  | _ => 9
theorem tag_val {d : D} {v : V} (r : RD X.K H μ d v) : tagV v = min (tagD d) 4 := by
  cases d with
  | non => cases (show v = .non from r); rfl
  | bl _ => cases (show v = .bl _ from r); rfl
  | int _ => cases (show v = .int _ from r); rfl
  | str _ => cases (show v = .str _ from r.1); rfl
  | tup _ => obtain ⟨a, vs, rfl, _⟩ := r; rfl
  | lst _ => obtain ⟨a, vs, rfl, _⟩ := r; rfl
  | scr _ => obtain ⟨a, vs, rfl, _⟩ := r; rfl
  | dct _ _ => obtain ⟨a, vs, rfl, _⟩ := r; rfl
  | ref _ => obtain ⟨a, rfl, _⟩ := r; rfl
theorem tag_same (I : Inv X pins σ H s) {d e : D} {v : V} (r : RD X.K H μ d v) (r' : RD X.K H μ e v) (hd : tagD d < 7) (he : tagD e < 7) : tagD d = tagD e := by
  have t1 := tag_val r
  have t2 := tag_val r'
  by_cases h1 : 4 ≤ tagD d
  · by_cases h2 : 4 ≤ tagD e
    · have c := cls_ne I r r' (tag_cls h1 hd) (tag_cls h2 he)
      have d1 : tagD d = 4 ∨ tagD d = 5 ∨ tagD d = 6 := by omega
      have d2 : tagD e = 4 ∨ tagD e = 5 ∨ tagD e = 6 := by omega
      rcases d1 with d1 | d1 | d1 <;> rcases d2 with d2 | d2 | d2 <;> rw [d1, d2] at c ⊢ <;> exact absurd c (by decide)
    · omega
  · omega
theorem D.ind {P : D → Prop} (non : P .non) (bl : ∀ b, P (.bl b)) (int : ∀ i, P (.int i)) (str : ∀ x, P (.str x)) (tup : ∀ ds, (∀ d ∈ ds, P d) → P (.tup ds)) (lst : ∀ ds, (∀ d ∈ ds, P d) → P (.lst ds))
    (dct : ∀ ks ds, (∀ d ∈ ds, P d) → P (.dct ks ds)) (scr : ∀ ds, (∀ d ∈ ds, P d) → P (.scr ds)) (ref : ∀ n, P (.ref n)) : ∀ d, P d := by
  intro d
  refine D.rec (motive_1 := P) (motive_2 := fun ds => ∀ d ∈ ds, P d) non bl int str tup lst (fun ks ds h => dct ks ds h) scr ref ?_ ?_ d
  · intro d hd
    cases hd
  · intro a as h1 h2 d hd
    rcases List.mem_cons.mp hd with rfl | hd
    · exact h1
    · exact h2 d hd
theorem eqZ_nil (bs : List D) : eqZ [] bs = some true := by
  rw [eqZ]
  intros
  simp_all
theorem eqZ_nil2 (a : D) (as : List D) : eqZ (a :: as) [] = some true := by
  rw [eqZ]
  intros
  simp_all
theorem eq_sames (I : Inv X pins σ H s) : ∀ (as bs : List D) (vs : List V) (b : Bool), (∀ d ∈ as, ∀ (e : D) (v : V) (b : Bool), RD X.K H μ d v → RD X.K H μ e v → eqD d e = some b → b = true) → RDs X.K H μ as vs → RDs X.K H μ bs vs → eqZ as bs = some b → b = true
  | [], bs, vs, b, ih, t, t', q => by
    rw [eqZ_nil] at q
    cases q
    rfl
  | a :: as, [], vs, b, ih, t, t', q => by
    rw [eqZ_nil2] at q
    cases q
    rfl
  | a :: as, c :: bs, vs, b, ih, t, t', q => by
    obtain ⟨v, r, rfl, h1, h2⟩ := t
    obtain ⟨v', r', e, h1', h2'⟩ := t'
    cases e
    rw [eqZ] at q
    cases e1 : eqD a c with
    | none => rw [e1] at q; cases q
    | some y =>
      cases e2 : eqZ as bs with
      | none => rw [e1, e2] at q; cases q
      | some z =>
        rw [e1, e2] at q
        cases q
        rw [ih a List.mem_cons_self c v y h1 h1' e1, eq_sames I as bs r z (fun d hd => ih d (List.mem_cons_of_mem _ hd)) h2 h2' e2]
        rfl
/-- one thing is equal to itself -/
theorem eq_same (I : Inv X pins σ H s) : ∀ (d e : D) (v : V) (b : Bool), RD X.K H μ d v → RD X.K H μ e v → eqD d e = some b → b = true := by
  intro d
  refine D.ind (P := fun d => ∀ (e : D) (v : V) (b : Bool), RD X.K H μ d v → RD X.K H μ e v → eqD d e = some b → b = true) ?_ ?_ ?_ ?_ ?_ ?_ ?_ ?_ ?_ d
  · intro e v b r r' q
    cases e <;> first
      | (cases q; rfl)
      | (cases q; exact absurd (tag_same I r r' (by decide) (by simp [tagD])) (by simp [tagD]))
      | cases q
  · intro x e v b r r' q
    cases e <;> first
      | (cases (show v = .bl _ from r); cases (show V.bl _ = .bl _ from r'); cases q; simp; done)
      | (cases q; exact absurd (tag_same I r r' (by simp [tagD]) (by simp [tagD])) (by simp [tagD]))
      | cases q
  · intro x e v b r r' q
    cases e <;> first
      | (cases (show v = .int _ from r); cases (show V.int _ = .int _ from r'); cases q; simp; done)
      | (cases q; exact absurd (tag_same I r r' (by simp [tagD]) (by simp [tagD])) (by simp [tagD]))
      | cases q
  · intro x e v b r r' q
    cases e <;> first
      | (cases (show v = .str _ from r.1); cases (show V.str _ = .str _ from r'.1); cases q; simp; done)
      | (cases q; exact absurd (tag_same I r r' (by simp [tagD]) (by simp [tagD])) (by simp [tagD]))
      | cases q
  · intro as ih e v b r r' q
    cases e with
    | tup bs =>
      obtain ⟨a, vs, rfl, q1, _, t1⟩ := r
      obtain ⟨a', vs', e', q2, _, t2⟩ := r'
      cases e'
      cases I.tuple_inj q1 q2
      rw [eqD] at q
      cases z : eqZ as bs with
      | none => rw [z] at q; cases q
      | some y =>
        rw [z] at q
        cases q
        rw [eq_sames I as bs vs y ih t1 t2 z, t1.len, t2.len]
        simp
    | _ => first
      | (cases q; exact absurd (tag_same I r r' (by simp [tagD]) (by simp [tagD])) (by simp [tagD]))
      | cases q
  · intro as ih e v b r r' q
    cases e with
    | lst bs =>
      obtain ⟨a, vs, rfl, q1, _, t1⟩ := r
      obtain ⟨a', vs', e', q2, _, t2⟩ := r'
      cases e'
      rw [q1] at q2
      cases q2
      rw [eqD, if_pos (by rw [t1.len, t2.len])] at q
      exact eq_sames I as bs vs b ih t1 t2 q
    | _ => first
      | (cases q; exact absurd (tag_same I r r' (by simp [tagD]) (by simp [tagD])) (by simp [tagD]))
      | cases q
  · intro ks as ih e v b r r' q
    cases e <;> first
      | (cases q; exact absurd (tag_same I r r' (by simp [tagD]) (by simp [tagD])) (by simp [tagD]))
      | cases q
  · intro as ih e v b r r' q
    cases e <;> cases q
  · intro n e v b r r' q
    cases e <;> cases q
/-- the object of a dict that is tracked -/
theorem dct_obj (I : Inv X pins σ H s) {a : Addr} {kvs : List (Key × V)} (q : H a = some (.dK kvs)) : IsDct s.heap a := by
  obtain ⟨_, _, vs, _, o, es, ep, h1, h2, h3, _⟩ := (show ObjOk X.prog X.w H s.heap a (.dK kvs) from I.hok a _ q)
  exact ⟨o, es, ep, h1, h2.1, h3⟩
def EqOk (X : Cx) (s : Shared) (H : Hp) (μ : List Addr) (d : D) : Prop := ∀ (e : D) (v w : V) (u z : Value) (b : Bool) (A : Around), RD X.K H μ d v → RD X.K H μ e w → RelV v u → RelV w z → eqD d e = some b →
  A.units + min d.depth e.depth < cLine → RcAt A s u z b ∧ EqAt A s u z b
theorem units_in1 (A : Around) : A.in1.units = A.units + 1 := rfl
/-- the pairs of two rows -/
theorem eq_pairs (I : Inv X pins σ H s) {as bs : List D} {vs ws : List V} {its jts : List Value} {x : Bool} {A : Around} (ih : ∀ d ∈ as, EqOk X s H μ d) (t1 : RDs X.K H μ as vs) (t2 : RDs X.K H μ bs ws) (r1 : Vals vs its) (r2 : Vals ws jts)
    (q : eqZ as bs = some x) (hu : A.units + min (depthL as + 1) (depthL bs + 1) < cLine) : ∀ j (h1 : j < its.toArray.size) (h2 : j < jts.toArray.size), EqAt A.in1 s its.toArray[j] jts.toArray[j] (eqJ as bs j) := by
  intro j h1 h2
  have l1 := t1.len.trans r1.length
  have l2 := t2.len.trans r2.length
  have j1 : j < as.length := by rw [l1]; simpa using h1
  have j2 : j < bs.length := by rw [l2]; simpa using h2
  obtain ⟨v, ev, rv⟩ := t1.at (List.getElem?_eq_getElem j1)
  obtain ⟨w, ew, rw'⟩ := t2.at (List.getElem?_eq_getElem j2)
  obtain ⟨u, eu, ru⟩ := r1.get ev
  obtain ⟨z, ez, rz⟩ := r2.get ew
  have e1 : its.toArray[j] = u := by
    have := List.getElem?_eq_some_iff.mp eu
    obtain ⟨_, e⟩ := this
    simpa using e
  have e2 : jts.toArray[j] = z := by
    have := List.getElem?_eq_some_iff.mp ez
    obtain ⟨_, e⟩ := this
    simpa using e
  rw [e1, e2]
  refine (ih as[j] (List.getElem_mem j1) bs[j] v w u z _ A.in1 rv rw' ru rz (eqZ_at q j _ _ (List.getElem?_eq_getElem j1) (List.getElem?_eq_getElem j2)) ?_).2
  have d1 := depth_mem (List.getElem_mem j1)
  have d2 := depth_mem (List.getElem_mem j2)
  rw [units_in1]
  omega
theorem eqAt_D (I : Inv X pins σ H s) : ∀ d : D, EqOk X s H μ d := by
  have nn : ∀ {u : Value}, RelV .non u → u = Value.none := fun r => r
  intro d
  refine D.ind (P := EqOk X s H μ) ?_ ?_ ?_ ?_ ?_ ?_ ?_ ?_ ?_ d
  · intro e v w u z b A r r' ru rz q hu
    cases (show v = .non from r)
    cases nn ru
    have hu0 : A.units < cLine := by omega
    cases e with
    | non => cases (show w = .non from r'); cases nn rz; cases q; exact ⟨RcAt.none_none, EqAt.same _⟩
    | bl y => cases (show w = .bl _ from r'); cases (show z = .bool y from rz); cases q; exact ⟨RcAt.none_bool _, EqAt.none_bool _⟩
    | int y => cases (show w = .int _ from r'); obtain ⟨t, rfl⟩ := rz; cases q; exact ⟨RcAt.none_int _ _, EqAt.none_int _ _⟩
    | str y => cases (show w = .str _ from r'.1); obtain ⟨t, rfl⟩ := rz; cases q; exact ⟨RcAt.none_str _ _, EqAt.none_str _ _⟩
    | tup bs => obtain ⟨a, vs, rfl, p, _, t⟩ := r'; cases (show z = .ref a from rz); obtain ⟨its, _, pt, _⟩ := I.tuple p; cases q; exact ⟨RcAt.none_tuple pt hu0, EqAt.none_tuple pt hu0⟩
    | lst bs => obtain ⟨a, vs, rfl, p, _, t⟩ := r'; cases (show z = .ref a from rz); obtain ⟨its, _, pt, _⟩ := I.list (SqL.of p); cases q; exact ⟨RcAt.none_list pt.isList hu0, EqAt.none_list pt.isList hu0⟩
    | dct ks bs => obtain ⟨a, vs, rfl, p, _⟩ := r'; cases (show z = .ref a from rz); have pt := dct_obj I p; cases q; exact ⟨RcAt.none_dict pt hu0, EqAt.none_dict pt hu0⟩
    | scr _ => cases q
    | ref _ => cases q
  · intro x e v w u z b A r r' ru rz q hu
    cases (show v = .bl _ from r)
    cases (show u = .bool x from ru)
    have hu0 : A.units < cLine := by omega
    cases e with
    | non => cases (show w = .non from r'); cases nn rz; cases q; exact ⟨RcAt.bool_none _, EqAt.bool_none _⟩
    | bl y => cases (show w = .bl _ from r'); cases (show z = .bool y from rz); cases q; exact ⟨RcAt.bool_bool _ _, EqAt.bool_bool _ _⟩
    | int y => cases (show w = .int _ from r'); obtain ⟨t, rfl⟩ := rz; cases q; exact ⟨RcAt.bool_int _ _ _, EqAt.bool_int _ _ _⟩
    | str y => cases (show w = .str _ from r'.1); obtain ⟨t, rfl⟩ := rz; cases q; exact ⟨RcAt.bool_str _ _ _, EqAt.bool_str _ _ _⟩
    | tup bs => obtain ⟨a, vs, rfl, p, _, t⟩ := r'; cases (show z = .ref a from rz); obtain ⟨its, _, pt, _⟩ := I.tuple p; cases q; exact ⟨RcAt.bool_tuple _ pt hu0, EqAt.bool_tuple _ pt hu0⟩
    | lst bs => obtain ⟨a, vs, rfl, p, _, t⟩ := r'; cases (show z = .ref a from rz); obtain ⟨its, _, pt, _⟩ := I.list (SqL.of p); cases q; exact ⟨RcAt.bool_list _ pt.isList hu0, EqAt.bool_list _ pt.isList hu0⟩
    | dct ks bs => obtain ⟨a, vs, rfl, p, _⟩ := r'; cases (show z = .ref a from rz); have pt := dct_obj I p; cases q; exact ⟨RcAt.bool_dict _ pt hu0, EqAt.bool_dict _ pt hu0⟩
    | scr _ => cases q
    | ref _ => cases q
  · intro x e v w u z b A r r' ru rz q hu
    cases (show v = .int _ from r)
    obtain ⟨t0, rfl⟩ := ru
    have hu0 : A.units < cLine := by omega
    cases e with
    | non => cases (show w = .non from r'); cases nn rz; cases q; exact ⟨RcAt.int_none _ _, EqAt.int_none _ _⟩
    | bl y => cases (show w = .bl _ from r'); cases (show z = .bool y from rz); cases q; exact ⟨RcAt.int_bool _ _ _, EqAt.int_bool _ _ _⟩
    | int y => cases (show w = .int _ from r'); obtain ⟨t, rfl⟩ := rz; cases q; exact ⟨RcAt.int_int _ _ _ _, EqAt.int_int _ _ _ _⟩
    | str y => cases (show w = .str _ from r'.1); obtain ⟨t, rfl⟩ := rz; cases q; exact ⟨RcAt.int_str _ _ _ _, EqAt.int_str _ _ _ _⟩
    | tup bs => obtain ⟨a, vs, rfl, p, _, t⟩ := r'; cases (show z = .ref a from rz); obtain ⟨its, _, pt, _⟩ := I.tuple p; cases q; exact ⟨RcAt.int_tuple _ _ pt hu0, EqAt.int_tuple _ _ pt hu0⟩
    | lst bs => obtain ⟨a, vs, rfl, p, _, t⟩ := r'; cases (show z = .ref a from rz); obtain ⟨its, _, pt, _⟩ := I.list (SqL.of p); cases q; exact ⟨RcAt.int_list _ _ pt.isList hu0, EqAt.int_list _ _ pt.isList hu0⟩
    | dct ks bs => obtain ⟨a, vs, rfl, p, _⟩ := r'; cases (show z = .ref a from rz); have pt := dct_obj I p; cases q; exact ⟨RcAt.int_dict _ _ pt hu0, EqAt.int_dict _ _ pt hu0⟩
    | scr _ => cases q
    | ref _ => cases q
  · intro x e v w u z b A r r' ru rz q hu
    cases (show v = .str _ from r.1)
    obtain ⟨t0, rfl⟩ := ru
    have hu0 : A.units < cLine := by omega
    cases e with
    | non => cases (show w = .non from r'); cases nn rz; cases q; exact ⟨RcAt.str_none _ _, EqAt.str_none _ _⟩
    | bl y => cases (show w = .bl _ from r'); cases (show z = .bool y from rz); cases q; exact ⟨RcAt.str_bool _ _ _, EqAt.str_bool _ _ _⟩
    | int y => cases (show w = .int _ from r'); obtain ⟨t, rfl⟩ := rz; cases q; exact ⟨RcAt.str_int _ _ _ _, EqAt.str_int _ _ _ _⟩
    | str y => cases (show w = .str _ from r'.1); obtain ⟨t, rfl⟩ := rz; cases q; exact ⟨RcAt.str_str _ _ _ _, EqAt.str_str _ _ _ _⟩
    | tup bs => obtain ⟨a, vs, rfl, p, _, t⟩ := r'; cases (show z = .ref a from rz); obtain ⟨its, _, pt, _⟩ := I.tuple p; cases q; exact ⟨RcAt.str_tuple _ _ pt hu0, EqAt.str_tuple _ _ pt hu0⟩
    | lst bs => obtain ⟨a, vs, rfl, p, _, t⟩ := r'; cases (show z = .ref a from rz); obtain ⟨its, _, pt, _⟩ := I.list (SqL.of p); cases q; exact ⟨RcAt.str_list _ _ pt.isList hu0, EqAt.str_list _ _ pt.isList hu0⟩
    | dct ks bs => obtain ⟨a, vs, rfl, p, _⟩ := r'; cases (show z = .ref a from rz); have pt := dct_obj I p; cases q; exact ⟨RcAt.str_dict _ _ pt hu0, EqAt.str_dict _ _ pt hu0⟩
    | scr _ => cases q
    | ref _ => cases q
  · intro as ih e v w u z b A r r' ru rz q hu
    have hsame := eq_same I (.tup as) e v b r
    obtain ⟨a, vs, rfl, p, _, t⟩ := id r
    cases (show u = .ref a from ru)
    obtain ⟨its, rv, pt, _⟩ := I.tuple p
    have hu0 : A.units < cLine := by omega
    cases e with
    | non => cases (show w = .non from r'); cases nn rz; cases q; exact ⟨RcAt.tuple_none pt hu0, EqAt.tuple_none pt hu0⟩
    | bl y => cases (show w = .bl _ from r'); cases (show z = .bool y from rz); cases q; exact ⟨RcAt.tuple_bool _ pt hu0, EqAt.tuple_bool _ pt hu0⟩
    | int y => cases (show w = .int _ from r'); obtain ⟨t, rfl⟩ := rz; cases q; exact ⟨RcAt.tuple_int _ _ pt hu0, EqAt.tuple_int _ _ pt hu0⟩
    | str y => cases (show w = .str _ from r'.1); obtain ⟨t, rfl⟩ := rz; cases q; exact ⟨RcAt.tuple_str _ _ pt hu0, EqAt.tuple_str _ _ pt hu0⟩
    | tup bs =>
      obtain ⟨a', ws, rfl, p', _, t'⟩ := id r'
      cases (show z = .ref a' from rz)
      obtain ⟨jts, rw', pt', _⟩ := I.tuple p'
      have q' := q
      rw [eqD] at q
      cases hz : eqZ as bs with
      | none => rw [hz] at q; cases q
      | some x =>
        rw [hz] at q
        cases q
        have hp := eq_pairs (A := A) I ih t t' rv rw' hz (by simpa [D.depth] using hu)
        have base := RcAt.tuples pt pt' hu0 hp
        have l1 := t.len.trans rv.length
        have l2 := t'.len.trans rw'.length
        have e1 : ((List.range (min its.toArray.size jts.toArray.size)).all (eqJ as bs) && its.toArray.size == jts.toArray.size) = (x && as.length == bs.length) := by
          rw [List.size_toArray, List.size_toArray, ← l1, ← l2, eqZ_all hz]
        rw [e1] at base
        refine ⟨base, ?_⟩
        by_cases hab : a = a'
        · subst hab
          rw [hsame r' q']
          exact EqAt.same _
        · exact EqAt.of_refs hab base
    | lst bs => obtain ⟨a', ws, rfl, p', _, t'⟩ := r'; cases (show z = .ref a' from rz); obtain ⟨jts, _, pt', _⟩ := I.list (SqL.of p'); cases q; exact ⟨RcAt.tuple_list pt pt'.isList hu0, EqAt.tuple_list pt pt'.isList hu0⟩
    | dct ks bs => obtain ⟨a', ws, rfl, p', _⟩ := r'; cases (show z = .ref a' from rz); have pt' := dct_obj I p'; cases q; exact ⟨RcAt.tuple_dict pt' pt hu0, EqAt.of_refs (ne_dct_tuple pt' pt).symm (RcAt.tuple_dict pt' pt hu0)⟩
    | scr _ => cases q
    | ref _ => cases q
  · intro as ih e v w u z b A r r' ru rz q hu
    have hsame := eq_same I (.lst as) e v b r
    obtain ⟨a, vs, rfl, p, _, t⟩ := id r
    cases (show u = .ref a from ru)
    obtain ⟨its, rv, pt0, _⟩ := I.list (SqL.of p)
    have pt := pt0.isList
    have hu0 : A.units < cLine := by omega
    cases e with
    | non => cases (show w = .non from r'); cases nn rz; cases q; exact ⟨RcAt.list_none pt hu0, EqAt.list_none pt hu0⟩
    | bl y => cases (show w = .bl _ from r'); cases (show z = .bool y from rz); cases q; exact ⟨RcAt.list_bool _ pt hu0, EqAt.list_bool _ pt hu0⟩
    | int y => cases (show w = .int _ from r'); obtain ⟨t, rfl⟩ := rz; cases q; exact ⟨RcAt.list_int _ _ pt hu0, EqAt.list_int _ _ pt hu0⟩
    | str y => cases (show w = .str _ from r'.1); obtain ⟨t, rfl⟩ := rz; cases q; exact ⟨RcAt.list_str _ _ pt hu0, EqAt.list_str _ _ pt hu0⟩
    | lst bs =>
      obtain ⟨a', ws, rfl, p', _, t'⟩ := id r'
      cases (show z = .ref a' from rz)
      obtain ⟨jts, rw', pt', _⟩ := I.list (SqL.of p')
      have q' := q
      have l1 := t.len.trans rv.length
      have l2 := t'.len.trans rw'.length
      have base : RcAt A s (.ref a) (.ref a') b := by
        rw [eqD] at q
        split at q
        · rename_i hl
          have hp := eq_pairs (A := A) I ih t t' rv rw' q (by simpa [D.depth] using hu)
          have hsz : its.toArray.size = jts.toArray.size := by rw [List.size_toArray, List.size_toArray, ← l1, ← l2, hl]
          have base := RcAt.lists pt pt'.isList hsz hu0 hp
          have e1 : (List.range its.toArray.size).all (eqJ as bs) = b := by
            have := eqZ_all q
            rw [← hl, Nat.min_self] at this
            rw [List.size_toArray, ← l1, this]
          rw [e1] at base
          exact base
        · rename_i hl
          cases q
          refine RcAt.lists_lengths pt pt'.isList ?_ hu0
          rw [List.size_toArray, List.size_toArray, ← l1, ← l2]
          simpa using hl
      refine ⟨base, ?_⟩
      by_cases hab : a = a'
      · subst hab
        rw [hsame r' q']
        exact EqAt.same _
      · exact EqAt.of_refs hab base
    | tup bs => obtain ⟨a', ws, rfl, p', _, t'⟩ := r'; cases (show z = .ref a' from rz); obtain ⟨jts, _, pt', _⟩ := I.tuple p'; cases q; exact ⟨RcAt.list_tuple pt pt' hu0, EqAt.list_tuple pt pt' hu0⟩
    | dct ks bs => obtain ⟨a', ws, rfl, p', _⟩ := r'; cases (show z = .ref a' from rz); have pt' := dct_obj I p'; cases q; exact ⟨RcAt.list_dict pt' pt hu0, EqAt.of_refs (ne_dct_list pt' pt).symm (RcAt.list_dict pt' pt hu0)⟩
    | scr _ => cases q
    | ref _ => cases q
  · intro ks as ih e v w u z b A r r' ru rz q hu
    obtain ⟨a, vs, rfl, p, _, t⟩ := id r
    cases (show u = .ref a from ru)
    have pt := dct_obj I p
    have hu0 : A.units < cLine := by omega
    cases e with
    | non => cases (show w = .non from r'); cases nn rz; cases q; exact ⟨RcAt.dict_none pt hu0, EqAt.dict_none pt hu0⟩
    | bl y => cases (show w = .bl _ from r'); cases (show z = .bool y from rz); cases q; exact ⟨RcAt.dict_bool _ pt hu0, EqAt.dict_bool _ pt hu0⟩
    | int y => cases (show w = .int _ from r'); obtain ⟨t, rfl⟩ := rz; cases q; exact ⟨RcAt.dict_int _ _ pt hu0, EqAt.dict_int _ _ pt hu0⟩
    | str y => cases (show w = .str _ from r'.1); obtain ⟨t, rfl⟩ := rz; cases q; exact ⟨RcAt.dict_str _ _ pt hu0, EqAt.dict_str _ _ pt hu0⟩
    | tup bs => obtain ⟨a', ws, rfl, p', _, t'⟩ := r'; cases (show z = .ref a' from rz); obtain ⟨jts, _, pt', _⟩ := I.tuple p'; cases q; exact ⟨RcAt.dict_tuple pt pt' hu0, EqAt.of_refs (ne_dct_tuple pt pt') (RcAt.dict_tuple pt pt' hu0)⟩
    | lst bs => obtain ⟨a', ws, rfl, p', _, t'⟩ := r'; cases (show z = .ref a' from rz); obtain ⟨jts, _, pt', _⟩ := I.list (SqL.of p'); cases q; exact ⟨RcAt.dict_list pt pt'.isList hu0, EqAt.of_refs (ne_dct_list pt pt'.isList) (RcAt.dict_list pt pt'.isList hu0)⟩
    | dct _ _ => cases q
    | scr _ => cases q
    | ref _ => cases q
  · intro as ih e v w u z b A r r' ru rz q hu
    cases e <;> cases q
  · intro n e v w u z b A r r' ru rz q hu
    cases e <;> cases q
end
def cmA : Cm → CmpOp
  | .eq => .Eq
  | .ne => .NotEq
  | .lt => .Lt
  | .le => .LtE
  | .gt => .Gt
  | .ge => .GtE
  | .isin => .In
  | .notin => .NotIn
  | .isN => .Is
  | .notN => .IsNot
section
variable {X : Cx}
theorem op_eqX (hu : X.A.units + 102 < cLine) : OpR X (compareOp .Eq) (rB X.K (cmpD .eq)) := by
  intro pins s σ H x y v u Q I rx ry hh
  obtain ⟨R, G, μ, Γ, h, σ', a, b, d, S, ra, rb, e, q⟩ := hh
  change (eqH h a b).map (fun b => D.bl b) = some d at e
  unfold eqH at e
  split at e
  · rename_i hd
    cases z : eqD a b with
    | none => rw [z] at e; cases e
    | some t =>
      rw [z] at e
      cases e
      have := (eqAt_D I a b x y v u t X.A (ra.toH S) (rb.toH S) rx ry z (by omega)).1
      exact this X.prog X.w X.xe _ ⟨.bl t, H, I, rfl, q _ G H S .refl rfl⟩
  · cases e
theorem inL_at {s : Shared} {x : D} : ∀ {ys : List D} {b : Bool}, inL x ys = some b → ∀ y ∈ ys, ∃ c, eqD y x = some c
  | [], _, _, y, hy => by cases hy
  | z :: ys, b, h, y, hy => by
    rw [inL] at h
    cases e1 : eqD z x with
    | none => rw [e1] at h; cases h
    | some c =>
      cases e2 : inL x ys with
      | none => rw [e1, e2] at h; cases h
      | some c2 =>
        rcases List.mem_cons.mp hy with rfl | hy
        · exact ⟨c, e1⟩
        · exact inL_at (s := s) e2 y hy
open Classical in
/-- what a value of a row tells of x, by the value -/
noncomputable def eqF (X : Cx) (s : Shared) (H : Hp) (μ : List Addr) (x : D) (ys : List D) (u : Value) : Bool :=
  if h : ∃ (y : D) (v : V) (c : Bool), y ∈ ys ∧ RD X.K H μ y v ∧ RelV v u ∧ eqD y x = some c then h.choose_spec.choose_spec.choose else false
theorem eqF_at {pins : List (Addr × Obj)} {σ : L2.St} {H : Hp} {s : Shared} {μ : List Addr} (I : Inv X pins σ H s) {A : Around} {x : D} {w : V} {z : Value} (r : RD X.K H μ x w) (rz : RelV w z) {ys : List D} {vs : List V} {us : List Value} {b : Bool} (t : RDs X.K H μ ys vs) (rv : Vals vs us)
    (h : inL x ys = some b) (hu : A.units + min x.depth (depthL ys) < cLine) : ∀ u ∈ us, EqAt A s u z (eqF X s H μ x ys u) := by
  intro u hu'
  obtain ⟨i, hi⟩ := List.getElem?_of_mem hu'
  have hl : i < ys.length := by
    rw [t.len, rv.length]
    exact (List.getElem?_eq_some_iff.mp hi).1
  obtain ⟨v, e1, r1⟩ := t.at (List.getElem?_eq_getElem hl)
  obtain ⟨u', e2, r2⟩ := rv.get e1
  rw [hi] at e2
  cases e2
  obtain ⟨c, hc⟩ := inL_at (s := s) h ys[i] (List.getElem_mem hl)
  have ex : ∃ (y : D) (v : V) (c : Bool), y ∈ ys ∧ RD X.K H μ y v ∧ RelV v u ∧ eqD y x = some c := ⟨ys[i], v, c, List.getElem_mem hl, r1, r2, hc⟩
  unfold eqF
  rw [dif_pos ex]
  have sp := ex.choose_spec.choose_spec.choose_spec
  have dm := depth_mem sp.1
  exact (eqAt_D I _ x _ w u z _ A sp.2.1 r sp.2.2.1 rz sp.2.2.2 (by omega)).2
section
variable {pins : List (Addr × Obj)} {σ : L2.St} {H : Hp} {s : Shared} {μ : List Addr}
theorem eqZ_det (I : Inv X pins σ H s) : ∀ (as bs cs : List D) (vs : List V) (b c : Bool), (∀ d ∈ as, ∀ (e x : D) (v : V) (b c : Bool), RD X.K H μ d v → RD X.K H μ e v → eqD d x = some b → eqD e x = some c → b = c) →
    RDs X.K H μ as vs → RDs X.K H μ bs vs → eqZ as cs = some b → eqZ bs cs = some c → b = c
  | [], [], cs, vs, b, c, ih, t, t', q, q' => by
    rw [eqZ_nil] at q q'
    cases q
    cases q'
    rfl
  | [], _ :: _, cs, vs, b, c, ih, t, t', q, q' => by
    have h1 := t.len
    have h2 := t'.len
    simp at h1 h2
    omega
  | _ :: _, [], cs, vs, b, c, ih, t, t', q, q' => by
    have h1 := t.len
    have h2 := t'.len
    simp at h1 h2
    omega
  | a :: as, a' :: bs, [], vs, b, c, ih, t, t', q, q' => by
    rw [eqZ_nil2] at q q'
    cases q
    cases q'
    rfl
  | a :: as, a' :: bs, z :: cs, vs, b, c, ih, t, t', q, q' => by
    obtain ⟨v, r, rfl, h1, h2⟩ := t
    obtain ⟨v', r', e, h1', h2'⟩ := t'
    cases e
    rw [eqZ] at q q'
    cases e1 : eqD a z with
    | none => rw [e1] at q; cases q
    | some y =>
      cases e2 : eqZ as cs with
      | none => rw [e1, e2] at q; cases q
      | some w =>
        rw [e1, e2] at q
        cases e3 : eqD a' z with
        | none => rw [e3] at q'; cases q'
        | some y' =>
          cases e4 : eqZ bs cs with
          | none => rw [e3, e4] at q'; cases q'
          | some w' =>
            rw [e3, e4] at q'
            cases q
            cases q'
            rw [ih a List.mem_cons_self a' z v y y' h1 h1' e1 e3, eqZ_det I as bs cs r w w' (fun d hd => ih d (List.mem_cons_of_mem _ hd)) h2 h2' e2 e4]
theorem eqD_det (I : Inv X pins σ H s) : ∀ (d e x : D) (v : V) (b c : Bool), RD X.K H μ d v → RD X.K H μ e v → eqD d x = some b → eqD e x = some c → b = c := by
  intro d
  refine D.ind (P := fun d => ∀ (e x : D) (v : V) (b c : Bool), RD X.K H μ d v → RD X.K H μ e v → eqD d x = some b → eqD e x = some c → b = c) ?_ ?_ ?_ ?_ ?_ ?_ ?_ ?_ ?_ d
  · intro e x v b c r r' q q'
    cases e <;> first
      | (rw [q] at q'; cases q'; rfl)
      | (cases x <;> cases q'; done)
      | exact absurd (tag_same I r r' (by simp [tagD]) (by simp [tagD])) (by simp [tagD])
  · intro y e x v b c r r' q q'
    cases e <;> first
      | (cases (show v = .bl _ from r); cases (show V.bl _ = .bl _ from r'); rw [q] at q'; cases q'; rfl)
      | (cases x <;> cases q'; done)
      | exact absurd (tag_same I r r' (by simp [tagD]) (by simp [tagD])) (by simp [tagD])
  · intro y e x v b c r r' q q'
    cases e <;> first
      | (cases (show v = .int _ from r); cases (show V.int _ = .int _ from r'); rw [q] at q'; cases q'; rfl)
      | (cases x <;> cases q'; done)
      | exact absurd (tag_same I r r' (by simp [tagD]) (by simp [tagD])) (by simp [tagD])
  · intro y e x v b c r r' q q'
    cases e <;> first
      | (cases (show v = .str _ from r.1); cases (show V.str _ = .str _ from r'.1); rw [q] at q'; cases q'; rfl)
      | (cases x <;> cases q'; done)
      | exact absurd (tag_same I r r' (by simp [tagD]) (by simp [tagD])) (by simp [tagD])
  · intro as ih e x v b c r r' q q'
    cases e with
    | tup bs =>
      obtain ⟨a, vs, rfl, q1, _, t1⟩ := r
      obtain ⟨a', vs', e', q2, _, t2⟩ := r'
      cases e'
      cases I.tuple_inj q1 q2
      cases x with
      | tup cs =>
        rw [eqD] at q q'
        cases z : eqZ as cs with
        | none => rw [z] at q; cases q
        | some y =>
          cases z' : eqZ bs cs with
          | none => rw [z'] at q'; cases q'
          | some y' =>
            rw [z] at q
            rw [z'] at q'
            cases q
            cases q'
            rw [eqZ_det I as bs cs vs y y' ih t1 t2 z z', t1.len, t2.len]
      | ref _ => cases q
      | scr _ => cases q
      | _ => cases q; cases q'; rfl
    | ref _ => cases q'
    | scr _ => cases q'
    | _ => exact absurd (tag_same I r r' (by simp [tagD]) (by simp [tagD])) (by simp [tagD])
  · intro as ih e x v b c r r' q q'
    cases e with
    | lst bs =>
      obtain ⟨a, vs, rfl, q1, _, t1⟩ := r
      obtain ⟨a', vs', e', q2, _, t2⟩ := r'
      cases e'
      rw [q1] at q2
      cases q2
      cases x with
      | lst cs =>
        rw [eqD] at q q'
        rw [t1.len] at q
        rw [t2.len] at q'
        split at q
        · rename_i hl
          rw [if_pos hl] at q'
          exact eqZ_det I as bs cs vs b c ih t1 t2 q q'
        · rename_i hl
          rw [if_neg hl] at q'
          cases q
          cases q'
          rfl
      | ref _ => cases q
      | scr _ => cases q
      | _ => cases q; cases q'; rfl
    | ref _ => cases q'
    | scr _ => cases q'
    | _ => exact absurd (tag_same I r r' (by simp [tagD]) (by simp [tagD])) (by simp [tagD])
  · intro ks as ih e x v b c r r' q q'
    cases e with
    | dct k2 bs =>
      cases x with
      | dct _ _ => cases q
      | ref _ => cases q
      | scr _ => cases q
      | _ => cases q; cases q'; rfl
    | ref _ => cases q'
    | scr _ => cases q'
    | _ => exact absurd (tag_same I r r' (by simp [tagD]) (by simp [tagD])) (by simp [tagD])
  · intro as ih e x v b c r r' q q'
    cases q
  · intro n e x v b c r r' q q'
    cases q
theorem eqF_is (I : Inv X pins σ H s) {x y : D} {v : V} {u : Value} {ys : List D} {c : Bool} (hy : y ∈ ys) (r : RD X.K H μ y v) (ru : RelV v u) (h : eqD y x = some c) : eqF X s H μ x ys u = c := by
  have ex : ∃ (y : D) (v : V) (c : Bool), y ∈ ys ∧ RD X.K H μ y v ∧ RelV v u ∧ eqD y x = some c := ⟨y, v, c, hy, r, ru, h⟩
  unfold eqF
  rw [dif_pos ex]
  have sp := ex.choose_spec.choose_spec.choose_spec
  have ev := sp.2.2.1.inj ru
  exact eqD_det I _ y x v _ c (ev ▸ sp.2.1) r sp.2.2.2 h
theorem inL_any (I : Inv X pins σ H s) {x : D} {zs : List D} : ∀ {ys : List D} {vs : List V} {us : List Value} {b : Bool}, (∀ y ∈ ys, y ∈ zs) → inL x ys = some b → RDs X.K H μ ys vs → Vals vs us → us.any (eqF X s H μ x zs) = b
  | [], vs, us, b, _, h, t, rv => by
    have h' : vs = [] := t
    subst h'
    cases rv
    cases h
    rfl
  | y :: ys, vs, us, b, hz, h, t, rv => by
    obtain ⟨v, r, rfl, h1, h2⟩ := t
    cases rv with
    | @cons _ u _ us r1 rt =>
      rw [inL] at h
      cases e1 : eqD y x with
      | none => rw [e1] at h; cases h
      | some c =>
        cases e2 : inL x ys with
        | none => rw [e1, e2] at h; cases h
        | some c2 =>
          rw [e1, e2] at h
          cases h
          rw [List.any_cons, eqF_is I (hz y List.mem_cons_self) h1 r1 e1, inL_any I (fun y hy => hz y (List.mem_cons_of_mem _ hy)) e2 h2 rt]
end
theorem op_inX (hu : X.A.units + 104 < cLine) : OpR X (compareOp .In) (rB X.K (cmpD .isin)) ∧ OpR X (compareOp .NotIn) (rB X.K (cmpD .notin)) := by
  have key : ∀ {pins : List (Addr × Obj)} {s : Shared} {σ : L2.St} {H : Hp} {x y : V} {v u : Value}, Inv X pins σ H s → RelV x v → RelV y u → ∀ {R : Fr} {G : Hp} {μ : List Addr} {Γ : List Slot} {h : List Cell} {σ' : L2.St} {a b : D} {t : Bool},
      Sim X.K R G μ Γ h σ' H → RW X.K Γ σ' G μ H a x → RW X.K Γ σ' G μ H b y → inH h a b = some t → (∀ z, b ≠ .str z) →
      ∃ (l : Addr) (items : Array Value) (e : Value → Bool), u = .ref l ∧ (s.heap.IsList l items ∨ s.heap.IsTuple l items) ∧ (∀ w, w ∈ items → EqAt X.A.in1 s w v (e w)) ∧ items.any e = t := by
    intro pins s σ H x y v u I rx ry R G μ Γ h σ' a b t S ra rb e hb
    unfold inH at e
    split at e
    · exact absurd rfl (hb _)
    · split at e
      · rename_i ys hys
        split at e
        · rename_i hd
          obtain ⟨p, vs, rfl, hp, lp, tp⟩ := seq_at S rb hys
          cases (show u = .ref p from ry)
          have tp' : RDs X.K H μ ys vs := tp.mono S.gh (List.prefix_refl _)
          rcases hp with hp | hp
          · obtain ⟨its, rv, pl, _⟩ := I.list hp
            refine ⟨p, its.toArray, eqF X s H μ a ys, rfl, .inl pl.isList, fun w hw => eqF_at I (ra.toH S) rx tp' rv e (by rw [units_in1]; omega) w (by simpa using hw), ?_⟩
            have := inL_any I (fun _ h => h) e tp' rv
            simpa using this
          · obtain ⟨its, rv, pl, _⟩ := I.tuple hp
            refine ⟨p, its.toArray, eqF X s H μ a ys, rfl, .inr pl, fun w hw => eqF_at I (ra.toH S) rx tp' rv e (by rw [units_in1]; omega) w (by simpa using hw), ?_⟩
            have := inL_any I (fun _ h => h) e tp' rv
            simpa using this
        · cases e
      · cases e
  constructor
  · intro pins s σ H x y v u Q I rx ry hh
    obtain ⟨R, G, μ, Γ, h, σ', a, b, d, S, ra, rb, e, q⟩ := hh
    change (inH h a b).map (fun b => D.bl b) = some d at e
    cases z : inH h a b with
    | none => rw [z] at e; cases e
    | some t =>
      rw [z] at e
      cases e
      have fin : EP X pins σ Q (.bool t) s := ⟨.bl t, H, I, rfl, q _ G H S .refl rfl⟩
      by_cases hb : ∃ w, b = .str w
      · obtain ⟨w, rfl⟩ := hb
        obtain ⟨ey, _⟩ := str_at rb
        subst ey
        unfold inH at z
        simp only at z
        split at z
        · rename_i a'
          obtain ⟨ex, _⟩ := str_at ra
          subst ex
          split at z
          · rename_i c hc
            cases z
            have ea : a' = ⟨#[c]⟩ := by
              obtain ⟨l⟩ := a'
              have : l.toList = [c] := hc
              have : l = #[c] := by
                apply Array.toList_inj.mp
                simpa using this
              rw [this]
            subst ea
            exact op_in_sign pins s σ H _ _ v u Q I rx ry ⟨c, w, rfl, rfl, q _ G H S .refl rfl⟩
          · cases z
        · cases z
      · obtain ⟨l, items, f, rfl, hl, he, ha⟩ := key I rx ry S ra rb z (fun w e => hb ⟨w, e⟩)
        rcases hl with hl | hl
        · exact SeqAt.in_listAt f hl he (by rw [ha]; exact fin)
        · exact SeqAt.in_tupleAt f hl he (by rw [ha]; exact fin)
  · intro pins s σ H x y v u Q I rx ry hh
    obtain ⟨R, G, μ, Γ, h, σ', a, b, d, S, ra, rb, e, q⟩ := hh
    change (inH h a b).map (fun b => D.bl (!b)) = some d at e
    cases z : inH h a b with
    | none => rw [z] at e; cases e
    | some t =>
      rw [z] at e
      cases e
      have fin : EP X pins σ Q (.bool (!t)) s := ⟨.bl (!t), H, I, rfl, q _ G H S .refl rfl⟩
      by_cases hb : ∃ w, b = .str w
      · obtain ⟨w, rfl⟩ := hb
        obtain ⟨ey, _⟩ := str_at rb
        subst ey
        unfold inH at z
        simp only at z
        split at z
        · rename_i a'
          obtain ⟨ex, _⟩ := str_at ra
          subst ex
          split at z
          · rename_i c hc
            cases z
            have ea : a' = ⟨#[c]⟩ := by
              obtain ⟨l⟩ := a'
              have : l.toList = [c] := hc
              have : l = #[c] := by
                apply Array.toList_inj.mp
                simpa using this
              rw [this]
            subst ea
            exact op_notIn_sign pins s σ H _ _ v u Q I rx ry ⟨c, w, rfl, rfl, q _ G H S .refl rfl⟩
          · cases z
        · cases z
      · obtain ⟨l, items, f, rfl, hl, he, ha⟩ := key I rx ry S ra rb z (fun w e => hb ⟨w, e⟩)
        rcases hl with hl | hl
        · exact SeqAt.notIn_listAt f hl he (by rw [ha]; exact fin)
        · exact SeqAt.notIn_tupleAt f hl he (by rw [ha]; exact fin)
theorem op_neX : OpR X (compareOp .NotEq) (rB X.K (cmpD .ne)) := by
  intro pins s σ H x y v u Q I rx ry hh
  obtain ⟨R, G, μ, Γ, h, σ', a, b, d, S, ra, rb, e, q⟩ := hh
  change (neD a b).map (fun b => D.bl b) = some d at e
  cases z : neD a b with
  | none => rw [z] at e; cases e
  | some t =>
    rw [z] at e
    cases e
    have fin : ∀ {x y : V}, RelV x v → RelV y u → scal x y = true → (!decide (x = y)) = t → wpAny (model X.prog X.w) X.A (compareOp .NotEq v u) (EP X pins σ Q) X.xe s := fun r1 r2 h1 h2 =>
      op_ne pins s σ H _ _ v u Q I r1 r2 ⟨h1, by rw [h2]; exact q _ G H S .refl rfl⟩
    unfold neD at z
    split at z
    · cases bl_at ra; cases bl_at rb; cases z; exact fin rx ry rfl (by rw [Bool.eq_iff_iff]; simp)
    · cases int_at ra; cases int_at rb; cases z; exact fin rx ry rfl (by rw [Bool.eq_iff_iff]; simp)
    · cases (str_at ra).1; cases (str_at rb).1; cases z; exact fin rx ry rfl (by rw [Bool.eq_iff_iff]; simp)
    · cases non_at ra; cases non_at rb; cases z; exact fin rx ry rfl (by simp)
    · cases non_at ra; cases int_at rb; cases z; exact fin rx ry rfl (by simp)
    · cases int_at ra; cases non_at rb; cases z; exact fin rx ry rfl (by simp)
    · cases non_at ra; cases (str_at rb).1; cases z; exact fin rx ry rfl (by simp)
    · cases (str_at ra).1; cases non_at rb; cases z; exact fin rx ry rfl (by simp)
    · cases z
/-- a value that is not None -/
theorem ne_non {K : PySem.W.Frag} {Γ : List Slot} {σ : L2.St} {G : Hp} {μ : List Addr} {H : Hp} {d : D} {v : V} (r : RW K Γ σ G μ H d v) (h : d ≠ .non) : v ≠ .non := by
  intro e
  subst e
  rcases r with r | ⟨i, c, a, h1, h2, h3, h4, h5⟩
  · cases d with
    | non => exact h rfl
    | bl _ => cases (show V.non = .bl _ from r)
    | int _ => cases (show V.non = .int _ from r)
    | str _ => cases (show V.non = .str _ from r.1)
    | tup _ => obtain ⟨a, vs, e, _⟩ := r; cases e
    | lst _ => obtain ⟨a, vs, e, _⟩ := r; cases e
    | scr _ => obtain ⟨a, vs, e, _⟩ := r; cases e
    | dct _ _ => obtain ⟨a, vs, e, _⟩ := r; cases e
    | ref _ => obtain ⟨a, e, _⟩ := r; cases e
  · cases h3
theorem op_cmp (o : Cm) (hu : X.A.units + 104 < cLine) : OpR X (compareOp (cmA o)) (rB X.K (cmpD o)) := by
  cases o with
  | eq => exact op_eqX (by omega)
  | ne => exact op_neX
  | isin => exact (op_inX hu).1
  | notin => exact (op_inX hu).2
  | lt =>
    intro pins s σ H x y v u Q I rx ry hh
    obtain ⟨R, G, μ, Γ, h, σ', a, b, d, S, ra, rb, e, q⟩ := hh
    unfold cmpD at e
    simp only at e
    split at e
    · cases int_at ra; cases int_at rb; cases e; exact op_lt pins s σ H _ _ v u Q I rx ry ⟨_, _, rfl, rfl, q _ G H S .refl rfl⟩
    · cases e
  | le =>
    intro pins s σ H x y v u Q I rx ry hh
    obtain ⟨R, G, μ, Γ, h, σ', a, b, d, S, ra, rb, e, q⟩ := hh
    unfold cmpD at e
    simp only at e
    split at e
    · cases int_at ra; cases int_at rb; cases e; exact op_le pins s σ H _ _ v u Q I rx ry ⟨_, _, rfl, rfl, q _ G H S .refl rfl⟩
    · cases e
  | gt =>
    intro pins s σ H x y v u Q I rx ry hh
    obtain ⟨R, G, μ, Γ, h, σ', a, b, d, S, ra, rb, e, q⟩ := hh
    unfold cmpD at e
    simp only at e
    split at e
    · cases int_at ra; cases int_at rb; cases e; exact op_gt pins s σ H _ _ v u Q I rx ry ⟨_, _, rfl, rfl, q _ G H S .refl rfl⟩
    · cases e
  | ge =>
    intro pins s σ H x y v u Q I rx ry hh
    obtain ⟨R, G, μ, Γ, h, σ', a, b, d, S, ra, rb, e, q⟩ := hh
    unfold cmpD at e
    simp only at e
    split at e
    · cases int_at ra; cases int_at rb; cases e; exact op_ge pins s σ H _ _ v u Q I rx ry ⟨_, _, rfl, rfl, q _ G H S .refl rfl⟩
    · cases e
  | isN =>
    intro pins s σ H x y v u Q I rx ry hh
    obtain ⟨R, G, μ, Γ, h, σ', a, b, d, S, ra, rb, e, q⟩ := hh
    unfold cmpD at e
    simp only at e
    split at e
    · split at e
      · cases non_at ra; cases non_at rb; cases e; exact op_isN pins s σ H _ _ v u Q I rx ry ⟨rfl, q _ G H S .refl rfl⟩
      · rename_i hn
        cases non_at rb
        cases e
        refine op_isN pins s σ H _ _ v u Q I rx ry ⟨rfl, ?_⟩
        rw [decide_eq_false (ne_non ra hn)]
        exact q _ G H S .refl rfl
    · cases e
  | notN =>
    intro pins s σ H x y v u Q I rx ry hh
    obtain ⟨R, G, μ, Γ, h, σ', a, b, d, S, ra, rb, e, q⟩ := hh
    unfold cmpD at e
    simp only at e
    split at e
    · split at e
      · cases non_at ra; cases non_at rb; cases e; exact op_notN pins s σ H _ _ v u Q I rx ry ⟨rfl, q _ G H S .refl rfl⟩
      · rename_i hn
        cases non_at rb
        cases e
        refine op_notN pins s σ H _ _ v u Q I rx ry ⟨rfl, ?_⟩
        rw [decide_eq_false (ne_non ra hn)]
        exact q _ G H S .refl rfl
    · cases e
end
end DC

set_option linter.all false
set_option Elab.async false
set_option maxRecDepth 100000
set_option maxHeartbeats 2000000
/-! DCall: built-in calls, subscripts and slices of the small language. -/
namespace DC
open PySem L2 PySem.Spec PyProof.Rows
def tyN : Ty → String
  | .str => "str"
  | .int => "int"
  | .bool => "bool"
  | .tuple => "tuple"
  | .list => "list"
  | .dict => "dict"
section
variable {X : Cx}
theorem neg_D : UnR X (unaryOp .USub) (rU1 X.K fun _ x => negD x) := by
  intro pins s σ H x v Q I rx hh
  obtain ⟨R, G, μ, Γ, h, σ', a, d, S, ra, e, q⟩ := hh
  dsimp only at e
  unfold negD at e
  split at e
  · cases int_at ra
    cases e
    exact un_neg pins s σ H _ v Q I rx ⟨_, rfl, q _ G H S .refl rfl⟩
  · cases e
/-- the type of a thing -/
def tyD (h : List Cell) : D → Option String
  | .non => some "NoneType"
  | .bl _ => some "bool"
  | .int _ => some "int"
  | .str _ => some "str"
  | .tup _ => some "tuple"
  | .lst _ => some "list"
  | .scr _ => some "list"
  | .dct _ _ => some "dict"
  | .ref n => match h[n]? with
    | some (.lst _) => some "list"
    | some (.dct _ _) => some "dict"
    | _ => none
theorem isi_ty : ∀ (t : Ty) (h : List Cell) (x : D) (b : Bool), isiD t h x = some b → ∃ T, tyD h x = some T ∧ kitB T (tyN t) = some b := by
  intro t h x b e
  cases x with
  | ref n =>
    unfold isiD at e
    unfold tyD
    simp only at e ⊢
    cases hn : h[n]? with
    | none => rw [hn] at e; cases e
    | some c =>
      rw [hn] at e
      cases c with
      | lst _ => refine ⟨_, rfl, ?_⟩; cases e; cases t <;> decide +kernel
      | dct _ _ => refine ⟨_, rfl, ?_⟩; cases e; cases t <;> decide +kernel
      | ins _ _ => cases e
  | _ => refine ⟨_, rfl, ?_⟩; cases e; cases t <;> decide +kernel
theorem sqT_tyx {K : PySem.W.Frag} {H : Hp} {a : Addr} {xs : List V} (h : SqT K H a xs) : TyX K H (.ref a) (.type "tuple") := by
  rcases h with (h | ⟨o, h⟩) | ⟨o, its, n, hk, hc, _⟩
  · exact .base (.tup h)
  · exact .fTuple h
  · exact .kTuple hk hc
theorem sqL_tyx {K : PySem.W.Frag} {H : Hp} {a : Addr} {xs : List V} (h : SqL K H a xs) : TyX K H (.ref a) (.type "list") := by
  rcases h with (h | ⟨o, h⟩) | ⟨o, its, n, hk, hc, _⟩
  · exact .base (.lst h)
  · exact .base (.frz h)
  · exact .kList hk hc
theorem ty_at {K : PySem.W.Frag} {R : Fr} {G : Hp} {μ : List Addr} {Γ : List Slot} {h : List Cell} {σ : L2.St} {H : Hp} (S : Sim K R G μ Γ h σ H) {d : D} {v : V} (r : RW K Γ σ G μ H d v) {T : String} (e : tyD h d = some T) : TyX K H v (.type T) := by
  cases d with
  | non => cases non_at r; cases e; exact .base .non
  | bl b => cases bl_at r; cases e; exact .base (.bl b)
  | int b => cases int_at r; cases e; exact .base (.int b)
  | str b => cases (str_at r).1; cases e; exact .base (.str b)
  | tup ds => obtain ⟨a, vs, rfl, p, _⟩ := tup_at S r; cases e; exact sqT_tyx p
  | lst ds => obtain ⟨a, vs, rfl, p, _⟩ := lst_at S r rfl; cases e; exact .base (.lst p)
  | dct ks xs => obtain ⟨a, vs, rfl, p, _⟩ := dct_at S r; cases e; exact .base (.dK p)
  | scr ds =>
    cases e
    rcases r with r | ⟨i, c, a, h1, h2, h3, h4, h5⟩
    · obtain ⟨a, vs, rfl, p, _⟩ := r
      exact sqL_tyx (S.gh.seq p)
    · cases c <;> cases h4
  | ref n =>
    obtain ⟨a, rfl, ha⟩ := ref_at r
    obtain ⟨c, hc, k⟩ := S.cell_at ha
    unfold tyD at e
    simp only [hc] at e
    cases c with
    | lst _ => cases e; obtain ⟨vs, q, _⟩ := k; exact .base (.lst q)
    | dct _ _ => cases e; obtain ⟨vs, q, _⟩ := k; exact .base (.dK q)
    | ins _ _ => cases e
/-- isinstance(x, t), the class written -/
theorem isi_D (t : Ty) : CallR X (.builtin "isinstance") (fun xs H Q => ∃ x, xs = [x, .ty (tyN t)] ∧ rU1 X.K (fun h d => (isiD t h d).map .bl) x H Q) := by
  intro pins s σ H xs us Q I r hh
  obtain ⟨x, rfl, R, G, μ, Γ, h, σ', a, d, S, ra, e, q⟩ := hh
  cases z : isiD t h a with
  | none => simp only [z] at e; cases e
  | some b =>
    simp only [z] at e
    cases e
    obtain ⟨T, hT, hk⟩ := isi_ty t h a b z
    exact call_isi pins s σ H _ us Q I r ⟨x, .ty (tyN t), .type T, .type (tyN t), b, rfl, .ty _, ty_at S ra hT, kit_ty hk, q _ G H S .refl rfl⟩
theorem _root_.L2.Inv.tl {pins : List (Addr × Obj)} {σ : L2.St} {H : Hp} {s : Shared} (I : Inv X pins σ H s) {a : Addr} {xs ys : List V} (h : SqT X.K H a xs) (h' : SqL X.K H a ys) : False := by
  obtain ⟨_, _, ⟨o, ho, hc, _⟩, _⟩ := I.tuple h
  obtain ⟨_, _, ⟨o', n, ho', hc', _⟩, _⟩ := I.list h'
  rw [ho] at ho'
  cases ho'
  rw [hc] at hc'
  exact absurd hc' (by simp)
theorem join_len (z : Str) (ss : List Str) : (PySem.Txt.join z ss).length ≤ (ss.map (·.length)).sum + ss.length * z.length := by
  unfold PySem.Txt.join
  rw [PySem.StrLaws.glued_eq_join]
  exact PySem.StrLaws.join_length_le z ss
theorem vals_bls {K : PySem.W.Frag} {G : Hp} {μ : List Addr} : ∀ {ds : List D} {vs : List V} {bs : List Bool}, RDs K G μ ds vs → blsOf ds = some bs → vs = bs.map V.bl
  | [], vs, bs, t, e => by
    cases e
    exact t
  | d :: ds, vs, bs, t, e => by
    obtain ⟨v, r, rfl, h1, h2⟩ := t
    cases d <;> first | (unfold blsOf at e; cases e; done) | skip
    unfold blsOf at e
    cases z : blsOf ds with
    | none => rw [z] at e; cases e
    | some bs' =>
      rw [z] at e
      cases e
      rw [vals_bls h2 z]
      cases (show v = .bl _ from h1)
      rfl
theorem vals_ints {K : PySem.W.Frag} {G : Hp} {μ : List Addr} : ∀ {ds : List D} {vs : List V} {bs : List Int}, RDs K G μ ds vs → intsOf ds = some bs → vs = bs.map V.int
  | [], vs, bs, t, e => by
    cases e
    exact t
  | d :: ds, vs, bs, t, e => by
    obtain ⟨v, r, rfl, h1, h2⟩ := t
    cases d <;> first | (unfold intsOf at e; cases e; done) | skip
    unfold intsOf at e
    cases z : intsOf ds with
    | none => rw [z] at e; cases e
    | some bs' =>
      rw [z] at e
      cases e
      rw [vals_ints h2 z]
      cases (show v = .int _ from h1)
      rfl
theorem vals_strs {K : PySem.W.Frag} {G : Hp} {μ : List Addr} : ∀ {ds : List D} {vs : List V} {bs : List Str}, RDs K G μ ds vs → strsOf ds = some bs → vs = bs.map V.str
  | [], vs, bs, t, e => by
    cases e
    exact t
  | d :: ds, vs, bs, t, e => by
    obtain ⟨v, r, rfl, h1, h2⟩ := t
    cases d <;> first | (unfold strsOf at e; cases e; done) | skip
    unfold strsOf at e
    cases z : strsOf ds with
    | none => rw [z] at e; cases e
    | some bs' =>
      rw [z] at e
      cases e
      rw [vals_strs h2 z]
      cases (show v = .str _ from h1.1)
      rfl
theorem maxL_is : ∀ {ns : List Int} {m : Int}, maxL ns = some m → m ∈ ns ∧ ∀ y ∈ ns, y ≤ m
  | [], m, e => by cases e
  | [a], m, e => by
    cases e
    simp
  | a :: b :: r, m, e => by
    rw [maxL] at e
    · cases z : maxL (b :: r) with
      | none => rw [z] at e; cases e
      | some k =>
        rw [z] at e
        cases e
        obtain ⟨h1, h2⟩ := maxL_is z
        dsimp only
        split
        · rename_i hk
          refine ⟨List.mem_cons_self, fun y hy => ?_⟩
          rcases List.mem_cons.mp hy with rfl | hy
          · exact Int.le_refl _
          · exact Int.le_trans (h2 y hy) hk
        · rename_i hk
          refine ⟨List.mem_cons_of_mem _ h1, fun y hy => ?_⟩
          rcases List.mem_cons.mp hy with rfl | hy
          · omega
          · exact h2 y hy
    · intro x; cases x
theorem minL_is : ∀ {ns : List Int} {m : Int}, minL ns = some m → m ∈ ns ∧ ∀ y ∈ ns, m ≤ y
  | [], m, e => by cases e
  | [a], m, e => by
    cases e
    simp
  | a :: b :: r, m, e => by
    rw [minL] at e
    · cases z : minL (b :: r) with
      | none => rw [z] at e; cases e
      | some k =>
        rw [z] at e
        cases e
        obtain ⟨h1, h2⟩ := minL_is z
        dsimp only
        split
        · rename_i hk
          refine ⟨List.mem_cons_self, fun y hy => ?_⟩
          rcases List.mem_cons.mp hy with rfl | hy
          · exact Int.le_refl _
          · exact Int.le_trans hk (h2 y hy)
        · rename_i hk
          refine ⟨List.mem_cons_of_mem _ h1, fun y hy => ?_⟩
          rcases List.mem_cons.mp hy with rfl | hy
          · omega
          · exact h2 y hy
    · intro x; cases x
theorem toStr_len (i : Int) (h : 0 ≤ i ∧ i < 1000000000000000) : ((toString i : String) : Str).length ≤ maxLen := by
  obtain ⟨m, rfl⟩ := Int.eq_ofNat_of_zero_le h.1
  have hm : m < 10 ^ 15 := by omega
  have e := PyProof.Rows.text_ofNat m
  have e' : ((toString (m : Int) : String) : Str) = ⟨((Nat.toDigits 10 m).map Char.toNat).toArray⟩ := e
  rw [e']
  show (((Nat.toDigits 10 m).map Char.toNat).toArray).size ≤ _
  rw [List.size_toArray, List.length_map]
  exact Nat.le_trans (PyProof.Rows.digits10_le (by decide) hm) (by decide)
/-- the built-in that a B1 is -/
def b1V : B1 → Value
  | .len => .builtin "len"
  | .all => .builtin "all"
  | .any => .builtin "any"
  | .abs => .builtin "abs"
  | .int => .type "int"
  | .str => .type "str"
  | .tuple => .type "tuple"
  | .list => .type "list"
  | .max => .builtin "max"
  | .min => .builtin "min"
  | .sum => .builtin "sum"
theorem call_b1 (hc : X.calm = true) (f : B1) : CallR X (b1V f) (rC1 X.K (b1D f)) := by
  intro pins s σ H xs us Q I r hh
  obtain ⟨x, rfl, R, G, μ, Γ, h, σ', a, d, S, ra, e, q⟩ := hh
  cases f with
  | len =>
    unfold b1D at e
    dsimp only at e
    split at e
    · obtain ⟨rfl, hl⟩ := str_at ra
      cases e
      exact call_len_str pins s σ H _ us Q I r ⟨_, rfl, le_sl hl, q _ G H S .refl rfl⟩
    · cases z : seqOf h a with
      | none => rw [z] at e; cases e
      | some ds =>
        rw [z] at e
        cases e
        obtain ⟨p, vs, rfl, hp, hl, t⟩ := seq_at S ra z
        refine call_len_seq pins s σ H _ us Q I r ⟨p, vs, rfl, hp, ?_⟩
        rw [← t.len]
        exact q _ G H S .refl rfl
  | all =>
    change (lstOf h a).bind (fun ds => (blsOf ds).map fun bs => D.bl (bs.all id)) = some d at e
    cases z : lstOf h a with
    | none => rw [z] at e; cases e
    | some ds =>
      rw [z] at e
      cases z2 : blsOf ds with
      | none => rw [Option.bind_some, z2] at e; cases e
      | some bs =>
        rw [Option.bind_some, z2] at e
        cases e
        obtain ⟨p, vs, rfl, hp, hl, t⟩ := lst_at S ra z
        have ev := vals_bls t z2
        subst ev
        exact cr_all hc pins s σ H _ us Q I r ⟨p, bs, rfl, .of hp, q _ G H S .refl rfl⟩
  | any =>
    change (lstOf h a).bind (fun ds => (blsOf ds).map fun bs => D.bl (bs.any id)) = some d at e
    cases z : lstOf h a with
    | none => rw [z] at e; cases e
    | some ds =>
      rw [z] at e
      cases z2 : blsOf ds with
      | none => rw [Option.bind_some, z2] at e; cases e
      | some bs =>
        rw [Option.bind_some, z2] at e
        cases e
        obtain ⟨p, vs, rfl, hp, hl, t⟩ := lst_at S ra z
        have ev := vals_bls t z2
        subst ev
        exact cr_any hc pins s σ H _ us Q I r ⟨p, bs, rfl, .of hp, q _ G H S .refl rfl⟩
  | abs =>
    unfold b1D at e
    dsimp only at e
    split at e
    · cases int_at ra
      cases e
      exact call_abs pins s σ H _ us Q I r ⟨_, rfl, q _ G H S .refl rfl⟩
    · cases e
  | int =>
    unfold b1D at e
    dsimp only at e
    split at e
    · cases int_at ra
      cases e
      exact call_int1 pins s σ H _ us Q I r (.inl ⟨_, rfl, q _ G H S .refl rfl⟩)
    · cases bl_at ra
      cases e
      exact call_int1 pins s σ H _ us Q I r (.inr ⟨_, rfl, q _ G H S .refl rfl⟩)
    · cases e
  | str =>
    unfold b1D at e
    dsimp only at e
    split at e
    · rename_i i
      cases int_at ra
      split at e
      · rename_i hi
        cases e
        refine call_str_int pins s σ H _ us Q I r ⟨i, rfl, ?_, q _ G H S .refl ⟨rfl, toStr_len i hi⟩⟩
        by_cases h0 : i.natAbs = 0
        · rw [h0]
          decide
        · have := (Nat.log2_lt (k := 60) h0).mpr (by omega)
          omega
      · cases e
    · cases e
  | tuple =>
    change (seqOf h a).map D.tup = some d at e
    cases z : seqOf h a with
    | none => rw [z] at e; cases e
    | some ds =>
      rw [z] at e
      cases e
      obtain ⟨p, vs, rfl, hp, hl, t⟩ := seq_at S ra z
      rcases hp with hp | hp
      · refine call_tuple_of pins s σ H _ us Q I r ⟨p, vs, rfl, .inl ⟨hp, fun l hl0 => ?_⟩⟩
        obtain ⟨S1, X1, r1⟩ := new_tup hl t hl0 S
        exact q _ _ _ S1 X1 r1
      · refine call_tuple_of pins s σ H _ us Q I r ⟨p, vs, rfl, .inr ⟨hp, q _ G H S .refl ?_⟩⟩
        cases a with
        | tup ds' =>
          cases z
          exact (tup_at S ra).choose_spec.choose_spec.2.2.2.2
        | lst ds' =>
          cases z
          obtain ⟨p', vs', e', hp', _⟩ := lst_at S ra rfl
          cases e'
          exact absurd (I.tl hp (SqL.of hp')) (fun z => z)
        | scr ds' =>
          cases z
          rcases ra with ra | ⟨i, c, a, h1, h2, h3, h4, h5⟩
          · obtain ⟨p', vs', e', hp', _⟩ := ra
            cases e'
            exact absurd (I.tl hp (S.gh.seq hp')) (fun z => z)
          · cases c <;> cases h4
        | ref n =>
          obtain ⟨p', vs', e', hp', _⟩ := lst_at S ra (ds := ds) z
          cases e'
          exact absurd (I.tl hp (SqL.of hp')) (fun z => z)
        | _ => cases z
  | list =>
    change (seqOf h a).map D.lst = some d at e
    cases z : seqOf h a with
    | none => rw [z] at e; cases e
    | some ds =>
      rw [z] at e
      cases e
      obtain ⟨p, vs, rfl, hp, hl, t⟩ := seq_at S ra z
      refine call_list_of pins s σ H _ us Q I r ⟨p, vs, rfl, hp, fun l hl0 => ?_⟩
      obtain ⟨S1, X1, r1⟩ := new_lst hl t hl0 S
      exact q _ _ _ S1 X1 r1
  | max =>
    change (lstOf h a).bind (fun ds => (intsOf ds).bind fun ns => (maxL ns).map D.int) = some d at e
    cases z : lstOf h a with
    | none => rw [z] at e; cases e
    | some ds =>
      rw [z, Option.bind_some] at e
      cases z2 : intsOf ds with
      | none => rw [z2] at e; cases e
      | some ns =>
        rw [z2, Option.bind_some] at e
        cases z3 : maxL ns with
        | none => rw [z3] at e; cases e
        | some m =>
          rw [z3] at e
          cases e
          obtain ⟨p, vs, rfl, hp, hl, t⟩ := lst_at S ra z
          have ev := vals_ints t z2
          subst ev
          obtain ⟨m1, m2⟩ := maxL_is z3
          refine cr_max hc pins s σ H _ us Q I r ⟨p, ns, rfl, .of hp, List.length_pos_of_mem m1, fun k k1 k2 => ?_⟩
          have : k = m := Int.le_antisymm (m2 k k1) (k2 m m1)
          subst this
          exact q _ G H S .refl rfl
  | min =>
    change (lstOf h a).bind (fun ds => (intsOf ds).bind fun ns => (minL ns).map D.int) = some d at e
    cases z : lstOf h a with
    | none => rw [z] at e; cases e
    | some ds =>
      rw [z, Option.bind_some] at e
      cases z2 : intsOf ds with
      | none => rw [z2] at e; cases e
      | some ns =>
        rw [z2, Option.bind_some] at e
        cases z3 : minL ns with
        | none => rw [z3] at e; cases e
        | some m =>
          rw [z3] at e
          cases e
          obtain ⟨p, vs, rfl, hp, hl, t⟩ := lst_at S ra z
          have ev := vals_ints t z2
          subst ev
          obtain ⟨m1, m2⟩ := minL_is z3
          refine cr_min hc pins s σ H _ us Q I r ⟨p, ns, rfl, .of hp, List.length_pos_of_mem m1, fun k k1 k2 => ?_⟩
          have : k = m := Int.le_antisymm (k2 m m1) (m2 k k1)
          subst this
          exact q _ G H S .refl rfl
  | sum =>
    change (lstOf h a).bind (fun ds => (intsOf ds).map fun ns => D.int ns.sum) = some d at e
    cases z : lstOf h a with
    | none => rw [z] at e; cases e
    | some ds =>
      rw [z, Option.bind_some] at e
      cases z2 : intsOf ds with
      | none => rw [z2] at e; cases e
      | some ns =>
        rw [z2] at e
        cases e
        obtain ⟨p, vs, rfl, hp, hl, t⟩ := lst_at S ra z
        have ev := vals_ints t z2
        subst ev
        exact cr_sum hc pins s σ H _ us Q I r ⟨p, ns, rfl, .of hp, q _ G H S .refl rfl⟩
def b2V : B2 → Value
  | .max => .builtin "max"
  | .min => .builtin "min"
theorem call_b2 (hc : X.calm = true) (f : B2) : CallR X (b2V f) (rC2 X.K fun _ => b2D f) := by
  intro pins s σ H xs us Q I r hh
  obtain ⟨x, y, rfl, R, G, μ, Γ, h, σ', a, b, d, S, ra, rb, e, q⟩ := hh
  simp only at e
  unfold b2D at e
  split at e
  · cases int_at ra
    cases int_at rb
    cases f with
    | max => cases e; exact call_max2 hc pins s σ H _ us Q I r ⟨_, _, rfl, q _ G H S .refl rfl⟩
    | min => cases e; exact call_min2 hc pins s σ H _ us Q I r ⟨_, _, rfl, q _ G H S .refl rfl⟩
  · cases e
theorem mt_joinD : MtR X "str.join" (fun x xs H Q => ∃ y, xs = [y] ∧ rB X.K (fun h a b => bmD .join h a b) x y H Q) := by
  intro pins s σ H x xs v us Q I rx rs hh
  obtain ⟨y, rfl, R, G, μ, Γ, h, σ', a, b, d, S, ra, rb, e, q⟩ := hh
  unfold bmD at e
  dsimp only at e
  split at e
  · rename_i z
    obtain ⟨rfl, _⟩ := str_at ra
    cases z1 : seqOf h b with
    | none => rw [z1] at e; cases e
    | some ds =>
      rw [z1, Option.bind_some] at e
      cases z2 : strsOf ds with
      | none => rw [z2] at e; cases e
      | some ss =>
        rw [z2, Option.bind_some] at e
        split at e
        · rename_i hz
          cases e
          obtain ⟨p, vs, rfl, hp, hl, t⟩ := seq_at S rb z1
          have ev := vals_strs t z2
          subst ev
          refine mt_join pins s σ H _ _ v us Q I rx rs ⟨z, p, ss, rfl, rfl, hp, hz, q _ G H S .refl ⟨rfl, ?_⟩⟩
          exact Nat.le_trans (join_len z ss) hz
        · cases e
  · cases e
theorem ix_dctV (hu : X.A.units + 1 < cLine) : IxR X (fun x y H Q => ∃ a v, x = .ref a ∧ DGet H a y (some v) ∧ Q v H) := by
  intro value slice pins s σ H x y v u Q I rx ry hh hs
  obtain ⟨a, z, rfl, g, q⟩ := hh
  cases (show v = .ref a from rx)
  exact tail_any (dict_typeIs I g) PySem.F.slot_dict_getitem.lookup (d_getItem hu I g ry fun w' s3 I3 rw' => ⟨z, H, I3, rw', q⟩) hs
theorem key_val {K : PySem.W.Frag} {Γ : List Slot} {σ : L2.St} {G : Hp} {μ : List Addr} {H : Hp} {d : D} {v : V} (r : RW K Γ σ G μ H d v) {k : Key} (e : keyOf d = some k) : v = kV k := by
  cases d <;> first | (cases e; done) | skip
  · cases e
    exact int_at r
  · cases e
    exact (str_at r).1
theorem dget_at {K : PySem.W.Frag} {G : Hp} {μ : List Addr} {k : Key} : ∀ {kvs : List (Key × V)} {xs : List D}, RDs K G μ xs (kvs.map (·.2)) →
    (∀ d, dgetL (kvs.map (·.1)) xs k = some d → ∃ v, valV kvs k = some v ∧ RD K G μ d v) ∧ (dgetL (kvs.map (·.1)) xs k = none → valV kvs k = none)
  | [], xs, t => by
    refine ⟨fun d e => ?_, fun _ => rfl⟩
    rw [List.map_nil] at e
    unfold dgetL at e
    cases e
  | (k', v) :: kvs, [], t => by
    have := t.len
    simp at this
  | (k', v) :: kvs, x :: xs, t => by
    obtain ⟨v', r, e, h1, h2⟩ := t
    rw [List.map_cons] at e
    injection e with e1 e2
    subst e2
    have ih := dget_at (k := k) (kvs := kvs) h2
    have ed : dgetL (((k', v) :: kvs).map (·.1)) (x :: xs) k = if k' = k then some x else dgetL (kvs.map (·.1)) xs k := by
      rw [List.map_cons]
      rfl
    have ev : valV ((k', v) :: kvs) k = if k' = k then some v else valV kvs k := by
      unfold valV
      rw [List.find?_cons]
      by_cases hk : k' = k
      · subst hk
        simp
      · simp [hk]
    rw [ed, ev]
    by_cases hk : k' = k
    · rw [if_pos hk, if_pos hk]
      refine ⟨fun d e => ?_, fun e => by cases e⟩
      cases e
      exact ⟨v, rfl, by rw [show v = v' from e1]; exact h1⟩
    · rw [if_neg hk, if_neg hk]
      exact ih
theorem dctOf_at {K : PySem.W.Frag} {R : Fr} {G : Hp} {μ : List Addr} {Γ : List Slot} {h : List Cell} {σ : L2.St} {H : Hp} (S : Sim K R G μ Γ h σ H) {d : D} {v : V} (r : RW K Γ σ G μ H d v) {ks : List Key} {xs : List D} (e : dctOf h d = some (ks, xs)) :
    ∃ a kvs, v = .ref a ∧ H a = some (.dK kvs) ∧ kvs.map (·.1) = ks ∧ RDs K G μ xs (kvs.map (·.2)) := by
  cases d with
  | dct k2 x2 =>
    cases e
    exact dct_at S r
  | ref n =>
    obtain ⟨a, rfl, ha⟩ := ref_at r
    obtain ⟨c, hc, k⟩ := S.cell_at ha
    unfold dctOf at e
    simp only [hc] at e
    cases c with
    | dct _ _ =>
      cases e
      obtain ⟨kvs, q, l, t⟩ := k
      exact ⟨a, kvs, rfl, q, l, t⟩
    | lst _ => cases e
    | ins _ _ => cases e
  | _ => cases e
theorem ix_D (hu : X.A.units + 1 < cLine) : IxR X (rB X.K ixD) := by
  intro value slice pins s σ H x y v u Q I rx ry hh hs
  obtain ⟨R, G, μ, Γ, h, σ', a, b, d, S, ra, rb, e, q⟩ := hh
  unfold ixD at e
  split at e
  · rename_i ks xs hd
    obtain ⟨p, kvs, rfl, hp, rfl, t⟩ := dctOf_at S ra hd
    cases hk : keyOf b with
    | none => rw [hk] at e; cases e
    | some k =>
      rw [hk, Option.bind_some] at e
      obtain ⟨w, hw, rw'⟩ := (dget_at (k := k) t).1 d e
      have ey := key_val rb hk
      subst ey
      exact ix_dctV hu value slice pins s σ H _ _ v u Q I rx ry ⟨p, w, rfl, by have g := DGet.k (k := k) hp; rw [hw] at g; exact g, q _ G H S .refl rw'⟩ hs
  · split at e
    · rename_i k
      cases int_at rb
      split at e
      · rename_i _ z _
        obtain ⟨rfl, hz⟩ := str_at ra
        cases hc : atI z.cps.toList k with
        | none => rw [hc] at e; cases e
        | some c =>
          rw [hc] at e
          cases e
          exact ix_str value slice pins s σ H _ _ v u Q I rx ry ⟨z, k, c, rfl, rfl, le_sl hz, hc, q _ G H S .refl ⟨rfl, by show (1 : Nat) ≤ 16777216; decide⟩⟩ hs
      · cases hq : seqOf h a with
        | none => rw [hq] at e; cases e
        | some ds =>
          rw [hq, Option.bind_some] at e
          obtain ⟨p, vs, rfl, hp, hl, t⟩ := seq_at S ra hq
          have hat : ∃ w, atI vs k = some w ∧ RD X.K G μ d w := by
            unfold atI at e ⊢
            rw [← t.len]
            cases hj : ixN ds.length k with
            | none => rw [hj] at e; cases e
            | some j =>
              rw [hj, Option.bind_some] at e
              rw [Option.bind_some]
              exact t.at e
          obtain ⟨w, hw, rw'⟩ := hat
          rcases hp with hp | hp
          · exact ix_list value slice pins s σ H _ _ v u Q I rx ry ⟨p, vs, k, w, rfl, rfl, hp, hw, q _ G H S .refl rw'⟩ hs
          · exact ix_tup value slice pins s σ H _ _ v u Q I rx ry ⟨p, vs, k, w, rfl, rfl, hp, hw, q _ G H S .refl rw'⟩ hs
    · cases e
theorem sl_D : SlR X (fun x l u H Q => rU1 X.K (fun h a => slI h a l u) x H Q) := by
  intro pins s σ H x v vl vu l u sl Q I rx hs pl pu hh
  obtain ⟨R, G, μ, Γ, h, σ', a, d, S, ra, e, q⟩ := hh
  dsimp only at e
  unfold slI at e
  split at e
  · rename_i z
    obtain ⟨rfl, hz⟩ := str_at ra
    cases e
    refine sl_str pins s σ H _ v vl vu l u sl Q I rx hs pl pu ⟨z, rfl, le_sl hz, ?_⟩
    have e1 : cutS z l u = ⟨(cut z.cps.toList l u).toArray⟩ := by
      unfold cutS cut
      rw [show z.cps.toList.length = z.length by simp [Str.length]]
    rw [e1]
    refine q _ G H S .refl ⟨rfl, ?_⟩
    show ((cut z.cps.toList l u).toArray).size ≤ _
    rw [List.size_toArray]
    refine Nat.le_trans (cut_len _ _ _) ?_
    rw [show z.cps.toList.length = z.length by simp [Str.length]]
    exact hz
  · rename_i ds
    cases e
    obtain ⟨p, vs, rfl, hp, lp, tp, rp⟩ := tup_at S ra
    refine sl_tupA pins s σ H _ v vl vu l u sl Q I rx hs pl pu ⟨p, vs, rfl, hp, fun hw => ?_, fun _ z hz0 => ?_⟩
    · have ee : cut ds l u = ds := by
        rw [← tp.len] at hw
        unfold cut
        rw [hw.1, hw.2]
        simp
      rw [ee] at q
      exact q _ G H S .refl rp
    · obtain ⟨S1, X1, r1⟩ := new_tup (ds := cut ds l u) (Nat.le_trans (cut_len _ _ _) lp) tp.cut hz0 S
      exact q _ _ _ S1 X1 r1
  · cases z : lstOf h a with
    | none => rw [z] at e; cases e
    | some ds =>
      rw [z] at e
      cases e
      obtain ⟨p, vs, rfl, hp, lp, tp⟩ := lst_at S ra z
      refine sl_list pins s σ H _ v vl vu l u sl Q I rx hs pl pu ⟨p, vs, rfl, .of hp, fun z hz0 => ?_⟩
      obtain ⟨S1, X1, r1⟩ := new_lst (ds := cut ds l u) (Nat.le_trans (cut_len _ _ _) lp) tp.cut hz0 S
      exact q _ _ _ S1 X1 r1
end
end DC

set_option linter.all false
set_option Elab.async false
set_option maxRecDepth 100000
set_option maxHeartbeats 2000000
/-! DEnum: enumerate of a tuple; walks over a list or a tuple, whichever it is. -/
namespace PySem
open Sem (wp)
open AutoSeq1 (wpAny_loadPart')
theorem meets_enumerate_newT (l : Addr) (items : Array Value) (n : Nat) (dct : Option Addr) (sl : Array (Option Value)) :
    Meets (Builtin.«enumerate.__new__» ⟨[.type "enumerate", .ref l], []⟩) (fun _ R s => s.heap.get? l = some { cls := .type "tuple", dict := dct, data := .seq items n, slots := sl } ∧
      R (.ok (.ret (.ref (s.heap.push { cls := .type "tuple_iterator", data := .fields #[.ref l, .int 0 0] }).objs.size)))
        { s with heap := (s.heap.push { cls := .type "tuple_iterator", data := .fields #[.ref l, .int 0 0] }).push { cls := .type "enumerate", data := .fields #[.none, .bool false, .ref s.heap.objs.size, rawInt 0, .none, .none] } }) :=
  .of_wp fun prog w A R s h => by
    obtain ⟨hp, g, d, tk, os⟩ := s; obtain ⟨hl, h⟩ := h
    have hsub := sub_enumerate
    have hL : Heap.IsTuple (Shared.heap ⟨hp, g, d, tk, os⟩) l items := ⟨_, hl, rfl, n, rfl⟩
    wp_walk using wpAny_loadPart' hl
    refine wpAny_stack_any fun st => wpAny_pure ?_
    split
    · rename_i c _ _ _ _ _
      cases (c == Value.type "enumerate")
      · wp_walk using wpAny_loadPart' hl, wpAny_pyIter_tuple hL
        exact ⟨_, rfl, h⟩
      · wp_walk using wpAny_loadPart' hl, wpAny_pyIter_tuple hL
        exact ⟨_, rfl, h⟩
    · wp_walk using wpAny_loadPart' hl, wpAny_pyIter_tuple hL
      exact ⟨_, rfl, h⟩
section
variable {prog : Program} {w : World} {A : Around} {E : Value → Shared → Prop} {s : Shared}
theorem call_enumerate_tuple {l : Addr} {items : Array Value} {Q : Value → Shared → Prop} (hL : s.heap.IsTuple l items)
    (h : ∀ h', IsEnum h' (s.heap.objs.size + 1) s.heap.objs.size 0 .none → h'.IsTupleIter s.heap.objs.size l 0 → h'.objs.size = s.heap.objs.size + 2 →
      (∀ b o, s.heap.get? b = some o → h'.get? b = some o) → Q (.ref (s.heap.objs.size + 1)) { s with heap := h' }) :
    wpAny (model prog w) A (call (.type "enumerate") [.ref l]) Q E s := by
  obtain ⟨⟨c, dct, dt, sl⟩, hl, hc, n, hd⟩ := hL
  replace hc : c = .type "tuple" := hc
  replace hd : dt = .seq items n := hd
  subst hc hd
  refine callType_new F.called_enumerate (by decide) (F.typeCall_enumerate_1 _) (F.newCall_enumerate_1 _) (fun obj => F.args_object_init_2 obj _) F.entry_enumerate_new
    (meets_enumerate_newT l items n dct sl) ⟨hl, ?_⟩
  have hz : (s.heap.push { cls := .type "tuple_iterator", data := .fields #[.ref l, .int 0 0] }).objs.size = s.heap.objs.size + 1 := Heap.size_push ..
  show _ ∧ _
  rw [hz]
  have he : IsEnum ((s.heap.push { cls := .type "tuple_iterator", data := .fields #[.ref l, .int 0 0] }).push
      { cls := .type "enumerate", data := .fields #[.none, .bool false, .ref s.heap.objs.size, rawInt 0, .none, .none] }) (s.heap.objs.size + 1) s.heap.objs.size 0 .none := by
    have := Heap.get?_push_size (s.heap.push { cls := .type "tuple_iterator", data := .fields #[.ref l, .int 0 0] })
      (o := { cls := .type "enumerate", data := .fields #[.none, .bool false, .ref s.heap.objs.size, rawInt 0, .none, .none] }) rfl
    rw [hz] at this; exact this
  refine ⟨⟨_, he, rfl⟩, h _ he ⟨_, Heap.get?_push_of_some _ (Heap.get?_push_size _ rfl), rfl, rfl⟩ (by rw [Heap.size_push, hz]) fun b o x => Heap.get?_push_of_some _ (Heap.get?_push_of_some _ x)⟩
theorem wpAny_pyNext_enumT_end {e it l : Addr} {i : Nat} {items : Array Value} {old : Value} {Q : Option Value → Shared → Prop} (hh : A.handled = none)
    (he : IsEnum s.heap e it i old) (hit : s.heap.IsTupleIter it l i) (hl : s.heap.IsTuple l items) (hx : items[i]? = none)
    (hQ : ∀ h', Heap.ExtBut it s.heap h' → Q none { s with heap := h' }) : wpAny (model prog w) A (pyNext (.ref e)) Q E s := by
  have hT : s.TypeIs (.ref e) "enumerate" := ⟨_, he, rfl⟩
  unfold pyNext
  refine wpAny_bind (wpAny_attempt (wpAny_callSpecial?_slot (name := Str.ofString "__next__") hT F.slot_enumerate_next
    (wpAny_call_entry F.slot_enumerate_next hT F.entry_enumerate_next ?_ (F.args_enumerate_next_1 _))))
  show wpAny _ _ (field (.ref e) 2 >>= _) _ _ _
  refine wpAny_bind (wpAny_field he rfl (x := .ref it) rfl ?_)
  refine wpAny_bind (wpAny_nextOf_tuple_end hh hit hl hx fun h' x he' hx' => ?_)
  obtain ⟨o, ho, hc⟩ := hx'
  refine wpAny_bind (wpAny_isInstance (T := "StopIteration") (b := true) ⟨o, ho, hc⟩ isSubtype_stop ?_)
  exact wpAny_pure (hQ _ he')
end
end PySem
namespace DC
open PySem L2 PySem.Spec PyProof.Rows
/-- the tuple at a, the items in new pairs -/
def IteT (K : PySem.W.Frag) (a : Addr) : It :=
  ⟨fun i H => ∃ xs x, SqT K H a xs ∧ xs[i]? = some x, fun i H v H' => ∃ T x, v = .ref T ∧ H T = none ∧ H' = upd H T (.tup [.int (i : Nat), x]) ∧ ∀ xs, SqT K H a xs → xs[i]? = some x, fun i H => ∃ xs, SqT K H a xs ∧ xs.length ≤ i⟩
theorem turn_enumT {P : Program} {w : World} {K : PySem.W.Frag} {elts : List Expr} {kk : Nat} {tpos : Pos} (a e it : Addr) (hae : a ≠ e) (hai : a ≠ it) :
    Turn P w K (.Tuple elts kk tpos) (IteT K a) [e, it] e (fun i h => (∃ old, IsEnum h e it ((i : Nat) : Int) old) ∧ h.IsTupleIter it a i ∧ e ≠ it) where
  mem := by simp
  obj := fun i h st b hb => by
    obtain ⟨⟨old, he⟩, ⟨o, ho, hc, hd⟩, _⟩ := st
    have e' : b = e ∨ b = it := by simpa using hb
    rcases e' with z | z
    · rw [z]; exact ⟨_, he, fun v q => nomatch q⟩
    · rw [z]; exact ⟨o, ho, fun v q => by rw [hd] at q; cases q⟩
  keep := fun i h h' st k => let ⟨⟨old, he⟩, hi, hne⟩ := st; ⟨⟨old, k e (by simp) _ he⟩, hi.at fun o q => k it (by simp) o q, hne⟩
  item := by
    intro X hP hw hK hc i pins s σ H E I hf st hg
    subst hP hw hK
    obtain ⟨⟨old, he⟩, hit, hne⟩ := st
    obtain ⟨xs, x, hq, hx⟩ := hg
    obtain ⟨its, rv, p, hz⟩ := I.tuple hq
    obtain ⟨u, hu, ru⟩ := rv.get hx
    have hel : e < s.heap.objs.size := Heap.lt_size he
    have hil : it < s.heap.objs.size := by obtain ⟨_, q, _⟩ := hit; exact Heap.lt_size q
    have hlt : i < its.toArray.size := by
      have := (List.getElem?_eq_some_iff.mp hu).1
      simpa using this
    refine wpAny_pyNext_enum_itemD (Draws.tuple (A := X.A.in1) (I.ok.hd hc) it a hai its.toArray) he ⟨hit, p⟩ hlt hne (by simp [hne, Ne.symm hae]) fun x' h' tk hx' ho st' hT hsz hk => ?_
    have ex : x' = u := by
      have e1 : its.toArray[i]? = some u := by simpa using hu
      rw [e1] at hx'
      exact (Option.some.inj hx').symm
    subst ex
    refine ⟨_, rfl, wpAny_letOwnedTupleGo_enum (s := { s with heap := h', toks := tk + 1 }) ho fun h'' he' sb => ?_⟩
    have hT2 : h''.get? s.heap.objs.size = some { cls := .type "tuple", data := .seq #[.int i tk, x'] } := (sb.2 _ (Nat.ne_of_gt hel)).trans hT
    have new : ObjOk X.prog X.w (upd H s.heap.objs.size (.tup [.int (i : Nat), x])) h'' s.heap.objs.size (.tup [.int (i : Nat), x]) :=
      ⟨by show 2 ≤ sizeLine; decide, [.int i tk, x'], .cons ⟨_, rfl⟩ (.cons ru .nil), ⟨_, hT2, rfl, _, rfl⟩⟩
    have I1 : Inv X pins σ (upd H s.heap.objs.size (.tup [.int (i : Nat), x])) { s with heap := h'', toks := tk + 1 } :=
      I.turnedNew (ch := [e, it]) (fun b ob hb q => (sb.2 b (fun z => hb (by simp [z]))).trans (hk b ob (fun z => hb (by simp [z])) (fun z => hb (by simp [z])) q)) hf (Nat.le_refl _) new
    refine ⟨.ref s.heap.objs.size, _, I1, rfl, ⟨_, x, rfl, I.hok.fresh (Nat.le_refl _), rfl, fun ys hy => by rw [I.tuple_inj hy hq]; exact hx⟩, ⟨⟨x', ?_⟩, st'.1.at fun o q => (sb.2 it (Ne.symm hne)).trans q, hne⟩, fun b hb => ?_⟩
    · have e1 : ((i + 1 : Nat) : Int) = (i : Int) + 1 := by omega
      rw [e1]; exact he'
    · have hb' : b < s.heap.objs.size := by
        have e' : b = e ∨ b = it := by simpa using hb
        rcases e' with z | z
        · rw [z]; exact hel
        · rw [z]; exact hil
      rw [upd_ne (Nat.ne_of_lt hb')]
      exact (hf b hb).1
  done := by
    intro X hP hw hK hc i pins s σ H E I hf st hg
    subst hP hw hK
    obtain ⟨⟨old, he⟩, hit, hne⟩ := st
    obtain ⟨xs, hq, hx⟩ := hg
    obtain ⟨its, rv, p, hz⟩ := I.tuple hq
    obtain ⟨f0, f1, f2, f3, f4, f5⟩ := hf it (by simp)
    have hl := rv.length
    exact wpAny_pyNext_enumT_end (I.ok.hd hc) he hit p (by simp; omega) fun h' eb => ⟨rfl, I.turned (t' := s.toks) (fun b o hb q => eb b o hb q) f0 f1 f3 f4 f5⟩
  self := fun A i s Q E st h => let ⟨⟨_, he⟩, _⟩ := st; wpAny_pyIter_enum he h
theorem walk_enumT {K : PySem.W.Frag} {a : Addr} {xs : List V} : Walk (IteT K a) xs.length (fun H => SqT K H a xs) (YPair (fun i => some (.int (i : Nat))) (fun i => xs[i]?)) := by
  refine ⟨fun i _ hi q => ⟨xs, xs[i], q, by simp [hi]⟩, fun _ q => ⟨xs, q, Nat.le_refl _⟩, fun i H v H' _ q y => ?_⟩
  obtain ⟨T, x, h1, h2, h3, h4⟩ := y
  exact ⟨T, .int (i : Nat), x, h1, h2, h3, rfl, h4 xs q⟩
section
variable {X : Cx} {tg : Expr}
/-- for x in e, a list or a tuple -/
def iSeq (K : PySem.W.Frag) (tl : TE) : TI := fun σ H R => tl σ H fun x H1 => ∃ a, x = .ref a ∧ ((∃ xs, SqL K H1 a xs) ∧ R (Itl K a) H1 ∨ (∃ xs, SqT K H1 a xs) ∧ R (Itt K a) H1)
theorem pi_seq {l : Expr} {tl : TE} (hl : PE X l tl) : PI X tg l (iSeq X.K tl) := by
  refine ⟨fun pins s σ H R I h => ?_⟩
  refine thn (hl.run pins s σ H _ I h) fun v s1 ⟨x, H1, I1, r1, q1⟩ => ?_
  obtain ⟨a, e, ⟨⟨xs, hq⟩, q⟩ | ⟨⟨xs, hq⟩, q⟩⟩ := q1
  · subst e
    cases r1
    obtain ⟨its, rv, p, hz⟩ := I1.list hq
    refine wpAny_pyIter_list p.isList ?_
    refine ⟨s1.heap.objs.size, [s1.heap.objs.size], _, _, H1, rfl, I1.kept (t' := s1.toks) fun b o e => Heap.get?_push_of_some _ e, turn_list a _, ⟨_, Heap.get?_push_size _ rfl, rfl, rfl⟩, fun b hb => ?_, q⟩
    have e : b = s1.heap.objs.size := by simpa using hb
    subst e
    exact I1.fpOk (Nat.le_refl _) (I1.hok.fresh (Nat.le_refl _))
  · subst e
    cases r1
    obtain ⟨its, rv, p, hz⟩ := I1.tuple hq
    refine wpAny_pyIter_tuple (show s1.heap.IsTuple a its.toArray from p) ?_
    refine ⟨s1.heap.objs.size, [s1.heap.objs.size], _, _, H1, rfl, I1.kept (t' := s1.toks) fun b o e => Heap.get?_push_of_some _ e, turn_tuple a _, ⟨_, Heap.get?_push_size _ rfl, rfl, rfl⟩, fun b hb => ?_, q⟩
    have e : b = s1.heap.objs.size := by simpa using hb
    subst e
    exact I1.fpOk (Nat.le_refl _) (I1.hok.fresh (Nat.le_refl _))
/-- for i, x in enumerate(e), a list or a tuple -/
def iEnumA (K : PySem.W.Frag) (ta : TA) : TI := fun σ H R => ta σ H fun vs H1 => ∃ a xs, vs = [.ref a] ∧ (SqL K H1 a xs ∧ R (Ite K a) H1 ∨ SqT K H1 a xs ∧ R (IteT K a) H1)
theorem pi_enumA {e : Expr} {ta : TA} {p pos tpos : Pos} {elts : List Expr} {kk : Nat} (hg : Gl X "enumerate") (hm : X.mg "enumerate" = none) (ha : PA X [e] ta) (hs : starEach [e] X.env = [(false, eval e X.env)]) :
    PI X (.Tuple elts kk tpos) (.Call (.Name "enumerate" p) [e] [] pos) (iEnumA X.K ta) := by
  refine ⟨fun pins s σ H R I h => ?_⟩
  refine Call_ (ld_blt I hg hm boot_enumerate (PyProof.Rows.callWith_type1 (thn (ha.run pos pins s σ H _ I h) fun us s1 ⟨vs, H1, I1, r1, q1⟩ => ?_) hs rfl))
  obtain ⟨a, xs, ex, q1⟩ := q1
  subst ex
  have fin : ∀ b, (b = s1.heap.objs.size + 1 ∨ b = s1.heap.objs.size) → FpOk X pins H1 b := fun b e' => by
    have hle : s1.heap.objs.size ≤ b := by
      rcases e' with z | z
      · rw [z]; exact Nat.le_add_right _ _
      · rw [z]; exact Nat.le_refl _
    exact I1.fpOk hle (I1.hok.fresh hle)
  cases r1 with
  | cons r rr =>
    cases rr
    cases r
    rcases q1 with ⟨hq, q⟩ | ⟨hq, q⟩
    · obtain ⟨its, rv, p', hz⟩ := I1.list hq
      refine call_enumerate_list p'.isList fun h' he hit hsz hk => wpAny_pyIter_enum he ?_
      have I2 : Inv X pins σ H1 { s1 with heap := h' } := I1.kept (t' := s1.toks) hk
      exact ⟨s1.heap.objs.size + 1, [s1.heap.objs.size + 1, s1.heap.objs.size], _, _, H1, rfl, I2, turn_enum a (s1.heap.objs.size + 1) s1.heap.objs.size, ⟨⟨.none, he⟩, hit, Nat.succ_ne_self _⟩, fun b hb => fin b (by simpa using hb), q⟩
    · obtain ⟨its, rv, p', hz⟩ := I1.tuple hq
      have alt : a < s1.heap.objs.size := by
        obtain ⟨o, ho, _⟩ := p'
        exact Heap.lt_size ho
      refine call_enumerate_tuple p' fun h' he hit hsz hk => wpAny_pyIter_enum he ?_
      have I2 : Inv X pins σ H1 { s1 with heap := h' } := I1.kept (t' := s1.toks) hk
      exact ⟨s1.heap.objs.size + 1, [s1.heap.objs.size + 1, s1.heap.objs.size], _, _, H1, rfl, I2, turn_enumT a (s1.heap.objs.size + 1) s1.heap.objs.size (Nat.ne_of_lt (Nat.lt_succ_of_lt alt)) (Nat.ne_of_lt alt), ⟨⟨.none, he⟩, hit, Nat.succ_ne_self _⟩, fun b hb => fin b (by simpa using hb), q⟩
end
end DC

set_option linter.all false
set_option Elab.async false
set_option maxRecDepth 100000
set_option maxHeartbeats 2000000
/-! DChk: «this text is this core», a Bool; what is known where a body runs (Wd, XOk). -/
namespace DC
open PySem L2 PySem.Spec PyProof.Rows
structure Ck where
  fnm : Nat → Option Str
  gnm : Nat → Option Str
def nmOk (x : Str) : Bool := !(x == ("__debug__" : Str)) && !(x == ("__classdict__" : Str)) && !decide (x = ("__name__" : Str))
def visB (sc : Scope) (x : Str) : Bool := match sc.names.lookup x with
  | some .local => true
  | some .cell => true
  | some .free => true
  | _ => false
def locB (sc : Scope) (x : Str) : Bool := match sc.names.lookup x with
  | some .local => true
  | some .cell => true
  | _ => false
def slotB (N : List Str) (sc : Scope) (i : Nat) (x : Str) : Bool := decide (N[i]? = some x) && visB sc x && nmOk x
def tgtB (N : List Str) (sc : Scope) (i : Nat) (x : Str) : Bool := decide (N[i]? = some x) && locB sc x
def glB (sc : Scope) (x : Str) : Bool := decide (sc.names.lookup x = some .globalImplicit) && nmOk x
def cD : D → Const → Bool
  | .non, .none => true
  | .bl a, .bool b => a == b
  | .int i, .int j => decide (i = j)
  | .str x, .str y => decide (x = y) && decide (x.length ≤ maxLen)
  | _, _ => false
def b1N : B1 → String
  | .len => "len"
  | .all => "all"
  | .any => "any"
  | .abs => "abs"
  | .int => "int"
  | .str => "str"
  | .tuple => "tuple"
  | .list => "list"
  | .max => "max"
  | .min => "min"
  | .sum => "sum"
def b2N : B2 → String
  | .max => "max"
  | .min => "min"
def bltNames : List String := ["len", "all", "any", "abs", "int", "str", "tuple", "list", "max", "min", "sum", "bool", "dict", "range", "enumerate", "isinstance"]
/-- its value is frozen, no list that is still changed -/
def strong : CE → Bool
  | .pk _ => false
  | .and _ b => strong b
  | .or _ b => strong b
  | .ite _ a b => strong a && strong b
  | _ => true
/-- it gives a new list or dict that nobody else holds -/
def fresh : CE → Bool
  | .lst _ => true
  | .dct _ _ => true
  | .lc _ _ _ _ _ _ => true
  | _ => false
/-- it may be asked as a test -/
def tstOk : CE → Bool
  | .ite _ _ _ => false
  | .and a b => tstOk a && tstOk b
  | .or a b => tstOk a && tstOk b
  | .not a => tstOk a
  | _ => true
def isSlice : Expr → Bool
  | .Slice _ _ _ _ => true
  | _ => false
def isStar : Expr → Bool
  | .Starred _ _ => true
  | _ => false
def isSetD : Expr → Bool
  | .Set _ _ _ => true
  | _ => false
/-- the operands of a bool operation behind the first -/
def restOf (op : BoolOp) (y : Expr) (rest : List Expr) (p : Pos) : Expr := match rest with
  | [] => y
  | _ => .BoolOp op (y :: rest) p
def keyC (k : Key) (e : Option Expr) : Bool := match e with
  | some (.Constant (.int i) _ _) => decide (k = .inl i)
  | some (.Constant (.str x) _ _) => decide (k = .inr x)
  | _ => false
def keysC : List Key → List (Option Expr) → Bool
  | [], [] => true
  | k :: ks, e :: es => keyC k e && keysC ks es
  | _, _ => false
def chkNames (N : List Str) (sc : Scope) : List Nat → List Expr → Bool
  | [], [] => true
  | i :: is, .Name x _ :: es => tgtB N sc i x && chkNames N sc is es
  | _, _ => false
def chkTg (N : List Str) (sc : Scope) (t : Tg) (e : Expr) : Bool := match t with
  | .one i => match e with
    | .Name x _ => tgtB N sc i x
    | _ => false
  | .tup is => match e with
    | .Tuple es _ _ => chkNames N sc is es
    | _ => false
def tgIn (t : Tg) (own : List Nat) : Bool := match t with
  | .one i => decide (i ∈ own)
  | .tup is => is.all fun i => decide (i ∈ own)
def ownOf (N : List Str) (own : List Nat) : List (Str × Nat) := own.map fun i => (N.getD i Str.empty, i)
def joinC (o : CE) (k : Const) : Bool := match o with
  | .c (.str x) => (match k with
    | .str y => decide (x = y) && decide (x.length ≤ maxLen)
    | _ => false)
  | _ => false
def noC (lo : CE) : Bool := match lo with
  | .no => true
  | _ => false
def trueC (c : CE) : Bool := match c with
  | .c (.bl true) => true
  | _ => false
def isTup : Expr → Bool
  | .Tuple _ _ _ => true
  | _ => false
/-- what is walked; chk: the sources are these texts -/
def chkIt (chk : List Expr → Bool) (k : ItK) (sc : Scope) (iter tg : Expr) : Bool := match k with
  | .seq => chk [iter] && !isSetD iter
  | .text => chk [iter] && !isSetD iter
  | .range1 => match iter with
    | .Call (.Name x _) [l] [] _ => decide (x = ("range" : Str)) && glB sc x && chk [l]
    | _ => false
  | .range2 => match iter with
    | .Call (.Name x _) [l, r] [] _ => decide (x = ("range" : Str)) && glB sc x && chk [l, r]
    | _ => false
  | .enum => match iter with
    | .Call (.Name x _) [l] [] _ => isTup tg && decide (x = ("enumerate" : Str)) && glB sc x && chk [l]
    | _ => false
mutual
def chkE (cx : Ck) (N : List Str) : CE → Scope → Expr → Bool
  | .c d, sc, e => match e with
    | .Constant k _ _ => cD d k
    | _ => false
  | .v i, sc, e => match e with
    | .Name x _ => slotB N sc i x
    | _ => false
  | .pk i, sc, e => match e with
    | .Name x _ => slotB N sc i x
    | _ => false
  | .g i, sc, e => match e with
    | .Name x _ => glB sc x && decide (cx.gnm i = some x)
    | _ => false
  | .no, _, _ => false
  | .bin o a b, sc, e => match e with
    | .BinOp l op r _ => decide (op = opA o) && chkE cx N a sc l && chkE cx N b sc r
    | _ => false
  | .neg a, sc, e => match e with
    | .UnaryOp op l _ => decide (op = .USub) && chkE cx N a sc l
    | _ => false
  | .cmp o a b, sc, e => match e with
    | .Compare l [op] [r] _ => decide (op = cmA o) && chkE cx N a sc l && chkE cx N b sc r && !behindInMarks op r
    | _ => false
  | .chain o o' a b c, sc, e => match e with
    | .Compare l [op, op'] [m, r] _ => decide (op = cmA o) && decide (op' = cmA o') && chkE cx N a sc l && chkE cx N b sc m && chkE cx N c sc r && !lastMarks [op, op'] [m, r]
    | _ => false
  | .and a b, sc, e => match e with
    | .BoolOp op (x :: y :: rest) p => decide (op = .And) && chkE cx N a sc x && chkE cx N b sc (restOf .And y rest p)
    | _ => false
  | .or a b, sc, e => match e with
    | .BoolOp op (x :: y :: rest) p => decide (op = .Or) && chkE cx N a sc x && chkE cx N b sc (restOf .Or y rest p)
    | _ => false
  | .not a, sc, e => match e with
    | .UnaryOp op x _ => decide (op = .Not) && chkE cx N a sc x
    | _ => false
  | .ite t a b, sc, e => match e with
    | .IfExp c x y _ => tstOk t && chkE cx N t sc c && chkE cx N a sc x && chkE cx N b sc y
    | _ => false
  | .isi t a, sc, e => match e with
    | .Call (.Name x _) [l, .Name ty _] [] _ => decide (x = ("isinstance" : Str)) && glB sc x && glB sc ty && decide (ty = Str.ofString (tyN t)) && chkE cx N a sc l && !isStar l
    | _ => false
  | .b1 f a, sc, e => match e with
    | .Call (.Name x _) [l] [] _ => decide (x = Str.ofString (b1N f)) && glB sc x && chkE cx N a sc l && !isStar l
    | _ => false
  | .b2 f a b, sc, e => match e with
    | .Call (.Name x _) [l, r] [] _ => decide (x = Str.ofString (b2N f)) && glB sc x && chkE cx N a sc l && chkE cx N b sc r && !isStar l && !isStar r
    | _ => false
  | .bm f o a, sc, e => match e with
    | .Call (.Attribute (.Constant k kk kp) m ap) [l] [] cp => decide (f = .join) && decide (m = ("join" : Str)) && joinC o k && chkE cx N a sc l && !isStar l && (ap.endLine == cp.line)
    | _ => false
  | .call f as, sc, e => match e with
    | .Call (.Name x _) (l :: ls) [] _ => glB sc x && decide (cx.fnm f = some x) && chkEs cx N as sc (l :: ls)
    | .Call (.Name x _) [] [] _ => glB sc x && decide (cx.fnm f = some x) && chkEs cx N as sc []
    | _ => false
  | .ix a b, sc, e => match e with
    | .Subscript l r _ => chkE cx N a sc l && chkE cx N b sc r && !isSlice r
    | _ => false
  | .sl a lo hi, sc, e => match e with
    | .Subscript l (.Slice x y none _) _ => chkE cx N a sc l && (match x with
        | none => noC lo
        | some x => chkE cx N lo sc x) && (match y with
        | none => noC hi
        | some y => chkE cx N hi sc y)
    | _ => false
  | .tup as, sc, e => match e with
    | .Tuple es _ _ => chkEs cx N as sc es
    | _ => false
  | .lst as, sc, e => match e with
    | .List es _ => chkEs cx N as sc es
    | _ => false
  | .dct ks as, sc, e => match e with
    | .Dict keys vals _ => keysC ks keys && decide ks.Nodup && decide (ks.length ≤ 15) && chkEs cx N as sc vals && decide (as.length = ks.length)
    | _ => false
  | .lc k srcs tg own cond elt, sc, e => match e with
    | .ListComp el [⟨tg', iter, ifs, z⟩] scope _ => decide (z = 0) && blkC N sc scope (ownOf N own) && tgIn tg own && chkIt (fun es => chkEs cx N srcs sc es) k sc iter tg' && chkTg N scope tg tg' && tstOk cond && (match ifs with
        | [] => trueC cond
        | [c] => chkE cx N cond scope c
        | _ => false) && chkE cx N elt scope el && strong elt && !isSetD iter
    | _ => false
  | .new a, sc, e => fresh a && chkE cx N a sc e
termination_by structural a => a
def chkEs (cx : Ck) (N : List Str) : List CE → Scope → List Expr → Bool
  | [], _, es => match es with
    | [] => true
    | _ => false
  | a :: as, sc, es => match es with
    | e :: es => strong a && chkE cx N a sc e && !isStar e && chkEs cx N as sc es
    | _ => false
termination_by structural as => as
end
/-! ### calls -/
def hminus (H : Hp) (μ : List Addr) : Hp := fun a => if a ∈ μ then none else H a
section
variable {K : PySem.W.Frag} {R : Fr} {G G' : Hp} {μ μ' : List Addr} {Γ : List Slot} {h h' : List Cell} {σ : L2.St} {H H' : Hp}
theorem hm_of {a : Addr} {o : HO} (e : H a = some o) (hm : a ∉ μ) : hminus H μ a = some o := by
  unfold hminus
  rw [if_neg hm]
  exact e
theorem hm_to {a : Addr} {o : HO} (e : hminus H μ a = some o) : a ∉ μ ∧ H a = some o := by
  unfold hminus at e
  split at e
  · cases e
  · exact ⟨by assumption, e⟩
/-- the state as a callee finds it -/
theorem Sim.enter (S : Sim K R G μ Γ h σ H) : Sim K ⟨hminus H μ, G, μ⟩ G μ [] h [] H := by
  refine ⟨S.gh, fun a o e => (hm_to e).2, Same.refl _, List.prefix_refl _, fun a e => .inl e, fun a e => ?_, S.mg, S.nd, S.len, S.cells, rfl, fun i s e => by simp at e, fun i j a c c' e _ _ _ => by simp at e⟩
  show hminus H μ a = none
  unfold hminus
  rw [if_pos e]
/-- the state behind a call -/
theorem Sim.back (S : Sim K R G μ Γ h σ H) (S' : Sim K ⟨hminus H μ, G, μ⟩ G' μ' [] h' [] H') : Sim K R G' μ' Γ h' σ H' ∧ Ext Γ σ G μ H G' μ' H' := by
  have gg : Same G G' := S'.g0
  have mm : μ <+: μ' := S'.m0
  have hk : ∀ {a : Addr} {o : HO}, H a = some o → a ∉ μ → H' a = some o := fun e hm => S'.fh _ _ (hm_of e hm)
  have fn : ∀ {a : Addr}, hminus H μ a = none → R.F a = none := fun {a} e => by
    cases q : R.F a with
    | none => rfl
    | some o =>
      have hm : a ∉ μ := fun z => by
        have := S.mf a z
        rw [q] at this
        cases this
      rw [hm_of (S.fh a o q) hm] at e
      cases e
  have own : ∀ (i : Nat) (c : Cell) (a : Addr), Γ[i]? = some (.own c) → σ[i]? = some (some (.ref a)) → H' a = H a ∧ CellAt K G μ H a c ∧ G' a = none ∧ R.F a = none ∧ a ∉ μ' := fun i c a e1 e2 => by
    obtain ⟨a', q1, c1, g1, f1, m1⟩ := S.slots i _ e1
    rw [e2] at q1
    cases q1
    obtain ⟨o, ho⟩ := c1.there
    refine ⟨(hk ho m1).trans ho.symm, c1, ?_, f1, fun z => ?_⟩
    · cases q : G' a with
      | none => rfl
      | some u =>
        rcases S'.gf a (by rw [q]; simp) with z | z
        · exact absurd g1 z
        · have z' : hminus H μ a = none := z
          rw [hm_of ho m1] at z'
          cases z'
    · have z' : hminus H μ a = none := S'.mf a z
      rw [hm_of ho m1] at z'
      cases z'
  refine ⟨⟨S'.gh, fun a o e => hk (S.fh a o e) (fun z => by have := S.mf a z; rw [e] at this; cases this), S.g0.trans gg, S.m0.trans mm, fun a e => ?_, fun a e => fn (S'.mf a e), S'.mg, S'.nd, S'.len, S'.cells, S.slen, fun i s e => ?_, S.dist⟩, gg, mm, fun i c a e1 e2 => (own i c a e1 e2).1⟩
  · rcases S'.gf a e with z | z
    · exact S.gf a z
    · exact .inr (fn z)
  · have q := S.slots i s e
    cases s with
    | no => trivial
    | val d =>
      obtain ⟨v, e1, r⟩ := q
      exact ⟨v, e1, r.mono gg mm⟩
    | own c =>
      obtain ⟨a, e1, _⟩ := q
      obtain ⟨o1, o2, o3, o4, o5⟩ := own i c a e e1
      exact ⟨a, e1, o2.mono gg mm o1, o3, o4, o5⟩
/-- an object more that is to stay -/
theorem Sim.addF (S : Sim K R G μ Γ h σ H) {p : Addr} {o : HO} (hH : H p = some o) (hG : G p = none) (hm : p ∉ μ) (ho : ∀ (i : Nat) (c : Cell), Γ[i]? = some (.own c) → σ[i]? ≠ some (some (.ref p))) :
    Sim K ⟨upd R.F p o, R.G0, R.μ0⟩ G μ Γ h σ H := by
  refine ⟨S.gh, fun a u e => ?_, S.g0, S.m0, fun a e => ?_, fun a e => ?_, S.mg, S.nd, S.len, S.cells, S.slen, fun i s e => ?_, S.dist⟩
  · by_cases q : a = p
    · subst q
      have e' : upd R.F a o a = some u := e
      rw [upd_same] at e'
      rw [hH]
      exact e'
    · have e' : upd R.F p o a = some u := e
      rw [upd_ne q] at e'
      exact S.fh a u e'
  · by_cases q : a = p
    · subst q
      exact absurd hG e
    · show _ ∨ upd R.F p o a = none
      rw [upd_ne q]
      exact S.gf a e
  · have n : a ≠ p := fun z => hm (by rw [← z]; exact e)
    show upd R.F p o a = none
    rw [upd_ne n]
    exact S.mf a e
  · have q := S.slots i s e
    cases s with
    | no => trivial
    | val d => exact q
    | own c =>
      obtain ⟨a, e1, c1, g1, f1, m1⟩ := q
      have n : a ≠ p := fun z => ho i c e (by rw [← z]; exact e1)
      refine ⟨a, e1, c1, g1, ?_, m1⟩
      show upd R.F p o a = none
      rw [upd_ne n]
      exact f1
theorem Sim.subF {F : Hp} (S : Sim K R G μ Γ h σ H) (hF : Same F R.F) : Sim K ⟨F, R.G0, R.μ0⟩ G μ Γ h σ H := by
  have fn : ∀ {a : Addr}, R.F a = none → F a = none := fun e => hF.free e
  refine ⟨S.gh, hF.trans S.fh, S.g0, S.m0, fun a e => ?_, fun a e => fn (S.mf a e), S.mg, S.nd, S.len, S.cells, S.slen, fun i s e => ?_, S.dist⟩
  · rcases S.gf a e with z | z
    · exact .inl z
    · exact .inr (fn z)
  · have q := S.slots i s e
    cases s with
    | no => trivial
    | val d => exact q
    | own c =>
      obtain ⟨a, e1, c1, g1, f1, m1⟩ := q
      exact ⟨a, e1, c1, g1, fn f1, m1⟩
end
/-- what a def of the table promises -/
def spFn (K : PySem.W.Frag) (ca : Nat → Addr) (T : Tb) (n f : Nat) : Sp := fun vs H Q E =>
  ∃ (G : Hp) (μ : List Addr) (h : List Cell) (ds : List D) (F : Fn), Sim K ⟨hminus H μ, G, μ⟩ G μ [] h [] H ∧ RDs K G μ ds vs ∧ T.fn f = some F ∧ ds.length = F.ar ∧
    Go K ca (fun cls dx _ H => E cls dx H) ⟨hminus H μ, G, μ⟩ [] [] (ρE K true) G μ H (callN T n f ds h) Q
/-- what is known of the text's defs and constants; n: how deep calls may go -/
structure Wd (P : Program) (w : World) (K : PySem.W.Frag) (mg : Str → Option Value) (base : Heap) (T : Tb) (ca : Nat → Addr) (cx : Ck) (n : Nat) : Prop where
  fns : ∀ f nm, cx.fnm f = some nm → ∃ (fa : Addr) (fd : FuncData) (ps : List Str), mg nm = some (.ref fa) ∧ PySem.W.keepIn K (.ref fa) = true ∧ Binds K fd ps [] ∧ FnOk P w K mg base (L2.CX P w) n fa fd ps (spFn K ca T n f)
  globs : ∀ i nm, cx.gnm i = some nm → ∃ u, mg nm = some u ∧ ∀ d, T.glob i = some d → ∃ v, RelV v u ∧ ∀ G μ, RD K G μ d v
  blt : ∀ x ∈ bltNames, mg (Str.ofString x) = none
/-- the frame's scope names what the text's scope names -/
structure ScOk (sc : Scope) (env : Env) : Prop where
  vis : ∀ x, visB sc x = true → Vis env.scope x
  loc : ∀ x, locB sc x = true → L2.Loc env.scope x
  gl : ∀ x, sc.names.lookup x = some .globalImplicit → env.scope.names.lookup x = some .globalImplicit
  cf : ∀ x, (sc.names.lookup x = some .cell ∨ sc.names.lookup x = some .free) → (env.scope.names.lookup x = some .cell ∨ env.scope.names.lookup x = some .free)
  lcl : ∀ x, sc.names.lookup x = some .local → env.scope.names.lookup x = some .local
theorem ScOk.self {env : Env} : ScOk env.scope env := by
  refine ⟨fun x q => ?_, fun x q => ?_, fun _ h => h, fun _ h => h, fun _ h => h⟩
  · unfold visB at q
    unfold Vis
    split at q
    · exact .inl (by assumption)
    · exact .inr (.inl (by assumption))
    · exact .inr (.inr (by assumption))
    · cases q
  · unfold locB at q
    unfold L2.Loc
    split at q
    · exact .inl (by assumption)
    · exact .inr (by assumption)
    · cases q
theorem lookup_map2 {f : Str → NameKind → NameKind} : ∀ {l : List (Str × NameKind)} {x : Str}, (l.map fun p => (p.1, f p.1 p.2)).lookup x = (l.lookup x).map (f x)
  | [], _ => rfl
  | p :: l, x => by
    obtain ⟨n, k⟩ := p
    rw [List.map_cons, List.lookup_cons, List.lookup_cons]
    cases hx : x == n with
    | true =>
      have : x = n := by simpa using hx
      subst this
      rfl
    | false => exact lookup_map2
theorem relabel_at {scope : Scope} {env : Env} {x : Str} : (relabel scope env).names.lookup x = (scope.names.lookup x).map fun k => if (k == .free && env.scope.kind == .function && env.kindOf x == some .cell) = true then .cell else k := by
  rw [← lookup_map2 (f := fun n k => if (k == .free && env.scope.kind == .function && env.kindOf n == some .cell) = true then .cell else k)]
  unfold relabel
  dsimp only
  congr 1
  apply List.map_congr_left
  intro p _
  obtain ⟨n, k⟩ := p
  dsimp only
  split <;> rfl
theorem ScOk.blk {scope : Scope} {cl : List (Str × Addr)} {C : Addr} {env : Env} : ScOk scope (compEnvC scope cl C env) := by
  have hl : ∀ x, scope.names.lookup x = some .local → (relabel scope env).names.lookup x = some .local := fun x h => by rw [relabel_at, h]; rfl
  have hc : ∀ x, scope.names.lookup x = some .cell → (relabel scope env).names.lookup x = some .cell := fun x h => by rw [relabel_at, h]; rfl
  have hf : ∀ x, scope.names.lookup x = some .free → (relabel scope env).names.lookup x = some .cell ∨ (relabel scope env).names.lookup x = some .free := fun x h => by
    rw [relabel_at, h]
    dsimp only [Option.map]
    split
    · exact .inl rfl
    · exact .inr rfl
  refine ⟨fun x q => ?_, fun x q => ?_, fun x h => ?_, fun x h => ?_, hl⟩
  · unfold visB at q
    unfold Vis
    split at q
    · exact .inl (hl x (by assumption))
    · exact .inr (.inl (hc x (by assumption)))
    · exact .inr (hf x (by assumption))
    · cases q
  · unfold locB at q
    unfold L2.Loc
    split at q
    · exact .inl (hl x (by assumption))
    · exact .inr (hc x (by assumption))
    · cases q
  · show (relabel scope env).names.lookup x = _
    rw [relabel_at, h]
    rfl
  · rcases h with h | h
    · exact .inl (hc x h)
    · exact hf x h
structure XOk (T : Tb) (ca : Nat → Addr) (cx : Ck) (n : Nat) (N : List Str) (W : WX) (sc : Scope) (X : Cx) : Prop where
  wd : Wd X.prog X.w X.K X.mg X.base T ca cx n
  hN : X.N = N
  nd : N.Nodup
  hsc : ScOk sc X.env
  kind : X.env.scope.kind = .function
  room : Room n X.A
  takes : Takes X W
  passes : PassesOwn (model X.prog X.w) X.A X.env X.xe
  calm : X.calm = true
  fnl : ∀ x, locB sc x = true → X.fn x = true ∨ X.env.scope.names.lookup x = some .local
end DC

set_option linter.all false
set_option Elab.async false
set_option maxRecDepth 100000
set_option maxHeartbeats 4000000
/-! DExp: the checker is sound: an expression that is a core expression gives what the evaluator tells. -/
namespace DC
open PySem L2 PySem.Spec PyProof.Rows

theorem and4 {a b : Bool} (h : (a && b) = true) : a = true ∧ b = true := by simpa using h
theorem not_t {a : Bool} (h : (!a) = true) : a = false := by simpa using h
theorem nm_dbg {x : Str} (h : nmOk x = true) : (x == ("__debug__" : Str)) = false ∧ (x == ("__classdict__" : Str)) = false ∧ x ≠ "__name__" := by
  unfold nmOk at h
  simp only [Bool.and_eq_true] at h
  exact ⟨not_t h.1.1, not_t h.1.2, of_decide_eq_false (not_t h.2)⟩
section
variable {T : Tb} {ca : Nat → Addr} {cx : Ck} {n : Nat} {N : List Str} {W : WX} {sc : Scope} {X : Cx}
theorem slot_vis (O : XOk T ca cx n N W sc X) {i : Nat} {x : Str} (h : slotB N sc i x = true) : X.N[i]? = some x ∧ Vis X.env.scope x ∧ nmOk x = true := by
  unfold slotB at h
  simp only [Bool.and_eq_true, decide_eq_true_eq] at h
  exact ⟨by rw [O.hN]; exact h.1.1, O.hsc.vis x h.1.2, h.2⟩
theorem tgt_loc (O : XOk T ca cx n N W sc X) {i : Nat} {x : Str} (h : tgtB N sc i x = true) : X.N[i]? = some x ∧ L2.Loc X.env.scope x ∧ (X.fn x = true ∨ X.env.scope.names.lookup x = some .local) := by
  unfold tgtB at h
  simp only [Bool.and_eq_true, decide_eq_true_eq] at h
  exact ⟨by rw [O.hN]; exact h.1, O.hsc.loc x h.2, O.fnl x h.2⟩
theorem gl_of (O : XOk T ca cx n N W sc X) {x : Str} (h : glB sc x = true) : Gl X x ∧ nmOk x = true := by
  unfold glB at h
  simp only [Bool.and_eq_true, decide_eq_true_eq] at h
  exact ⟨O.hsc.gl x h.1, h.2⟩
theorem star_of {e : Expr} (h : isStar e = false) (es : List Expr) (env : Env) : starEach (e :: es) env = (false, eval e env) :: starEach es env := by
  cases e <;> first | rfl | (cases h)
theorem pair_swap : ∀ (pos : Pos) (l : List (Bool × Sem Value)), l.any (·.1) = false → (backTo pos l).any (·.1) = false := by
  intro pos l h
  cases l with
  | nil => rfl
  | cons a r => simpa [backTo] using h
/-- no star among them -/
theorem stars_of : ∀ {as : List CE} {es : List Expr}, chkEs cx N as sc es = true → ∀ (env : Env), (starEach es env).any (·.1) = false
  | [], [], _, env => rfl
  | [], _ :: _, h, env => by
    simp [chkEs] at h
  | a :: as, [], h, env => by
    simp [chkEs] at h
  | a :: as, e :: es, h, env => by
    rw [chkEs] at h
    simp only [Bool.and_eq_true] at h
    rw [star_of (not_t h.1.2), List.any_cons, stars_of h.2 env]
    rfl
theorem no_star : ∀ {as : List CE} {e : Expr} {es : List Expr}, chkEs cx N as sc (e :: es) = true → isStar e = false
  | [], e, es, h => by
    simp [chkEs] at h
  | a :: as, e, es, h => by
    rw [chkEs] at h
    simp only [Bool.and_eq_true] at h
    exact not_t h.1.2
theorem blt_of (O : XOk T ca cx n N W sc X) {x : String} (h : x ∈ bltNames) : X.mg (Str.ofString x) = none := O.wd.blt x h

/-! ### readings put together -/
variable {K : PySem.W.Frag} {σ : L2.St} {H : Hp} {ρ : Rel D V}
theorem toB_go {R : Fr} {Γ : List Slot} {G : Hp} {μ : List Addr} {r : Out D} {st : Bool} {Q : Bool → Hp → Prop} (g : Go K ca W R Γ σ ρB G μ H (toB r) Q) :
    Go K ca W R Γ σ (ρE K st) G μ H r (fun v H1 => ∃ b, v = .bl b ∧ Q b H1) := by
  refine (Go.bind (ρ := ρE K st) g).mono fun v H1 ⟨a, h1, G1, μ1, S1, X1, r1, g1⟩ => ?_
  cases a with
  | bl b =>
    have e := bl_at (r1 : RE K st Γ σ G1 μ1 H1 (.bl b) v).w
    exact ⟨b, e, Go.val (b := b) g1 S1 rfl⟩
  | _ => exact g1.elim
/-- a value's reading serves as a test's, where the text is asked for its truth as it stands -/
theorem pt_of {e : Expr} {ev : List Slot → List Cell → Out D} {st : Bool} (p : PE X e (tI X.K ca W (ρE X.K st) ev)) (he : ∀ whole, isTrue e X.env whole = (do let v ← whole; standAt e.pos; holding [v] (truthy v))) :
    PT X e (tI X.K ca W ρB (fun Γ h => toB (ev Γ h))) := by
  refine (pt_val p he).imp fun σ H Q ⟨R, G, μ, Γ, h, S, g⟩ => ?_
  exact ⟨R, G, μ, Γ, h, S, toB_go g⟩
theorem val_go {d : D} {v : V} {st : Bool} {Q : VK} (hv : ∀ (R : Fr) (G : Hp) (μ : List Addr) (Γ : List Slot) (h : List Cell), Sim K R G μ Γ h σ H → RD K G μ d v) (t : tI K ca W (ρE K st) (fun _ h => some (.ok d h)) σ H Q) : Q v H := by
  obtain ⟨R, G, μ, Γ, h, S, g⟩ := t
  exact Go.val g S (.of (hv R G μ Γ h S))

/-! ### one rule a construct -/
theorem hu_room (O : XOk T ca cx n N W sc X) : X.A.units + 200 < cLine := by have := O.room.un; omega
variable {l r m e : Expr} {p : Pos} {ea eb ec : List Slot → List Cell → Out D} {sa sb se : Bool}
theorem s_bin (o : Op) (pa : PE X l (tI X.K ca W (ρE X.K sa) ea)) (pb : PE X r (tI X.K ca W (ρE X.K sb) eb)) :
    PE X (.BinOp l (opA o) r p) (tI X.K ca W (ρE X.K se) (fun Γ h => bnd (ea Γ h) fun x h => bnd (eb Γ h) fun y h => liftO (binD o h x y) h)) :=
  (pe_op (op_bin o) pa pb).imp fun _ _ _ t => two_of t
theorem s_neg (pa : PE X l (tI X.K ca W (ρE X.K sa) ea)) : PE X (.UnaryOp .USub l p) (tI X.K ca W (ρE X.K se) (fun Γ h => bnd (ea Γ h) fun x h => liftO (negD x) h)) :=
  (pe_un neg_D pa).imp fun _ _ _ t => un_of (f := fun _ x => negD x) t
theorem s_cmp (O : XOk T ca cx n N W sc X) (o : Cm) (pa : PE X l (tI X.K ca W (ρE X.K sa) ea)) (pb : PE X r (tI X.K ca W (ρE X.K sb) eb)) (hm : behindInMarks (cmA o) r = false) :
    PE X (.Compare l [cmA o] [r] p) (tI X.K ca W (ρE X.K se) (fun Γ h => bnd (ea Γ h) fun x h => bnd (eb Γ h) fun y h => liftO (cmpD o h x y) h)) ∧
    PT X (.Compare l [cmA o] [r] p) (tI X.K ca W ρB (fun Γ h => toB (bnd (ea Γ h) fun x h => bnd (eb Γ h) fun y h => liftO (cmpD o h x y) h))) :=
  have hu := hu_room O
  ⟨(pe_cmpR (op_cmp o (by omega)) pa pb hm).imp fun _ _ _ t => two_of t,
   (pt_cmpR (op_cmp o (by omega)) pa pb hm).imp fun σ H Q ⟨R, G, μ, Γ, h, S, g⟩ => two_of (st := true) ⟨R, G, μ, Γ, h, S, toB_go g⟩⟩
theorem chain_read {o o' : Cm} {st : Bool} {Q : VK} (t : tI X.K ca W (ρE X.K st) (fun Γ h => bnd (ea Γ h) fun x h => bnd (eb Γ h) fun y h => match cmpD o h x y with
    | some (.bl true) => bnd (ec Γ h) fun z h => liftO (cmpD o' h y z) h
    | some (.bl false) => some (.ok (.bl false) h)
    | _ => none) σ H Q) : tChain (rB X.K (cmpD o)) (rB X.K (cmpD o')) (tI X.K ca W (ρE X.K sa) ea) (tI X.K ca W (ρE X.K sb) eb) (tI X.K ca W (ρE X.K se) ec) σ H Q := by
  obtain ⟨R, G, μ, Γ, h, S, g⟩ := t
  refine ⟨R, G, μ, Γ, h, S, g.bind.mono fun v H1 ⟨a, h1, G1, μ1, S1, X1, r1, g1⟩ => ?_⟩
  refine ⟨R, G1, μ1, Γ, h1, S1, g1.bind.mono fun u H2 ⟨b, h2, G2, μ2, S2, X2, r2, g2⟩ => ?_⟩
  cases z : cmpD o h2 a b with
  | none => rw [z] at g2; exact g2.elim
  | some d =>
    rw [z] at g2
    refine ⟨R, G2, μ2, Γ, h2, σ, a, b, d, S2, (r1 : RE X.K sa Γ σ G1 μ1 H1 a v).w.mono X2, (r2 : RE X.K sb Γ σ G2 μ2 H2 b u).w, z, fun w G3 H3 S3 X3 r3 => ?_⟩
    cases d with
    | bl k =>
      refine ⟨k, r3, ?_⟩
      cases k with
      | true =>
        rw [if_pos rfl]
        refine ⟨R, G3, μ2, Γ, h2, S3, ((Go.shift g2 X3).bind).mono fun w' H4 ⟨c, h4, G4, μ4, S4, X4, r4, g4⟩ => ?_⟩
        obtain ⟨d', e, q⟩ := liftO_go g4
        exact ⟨R, G4, μ4, Γ, h4, σ, b, c, d', S4, ((r2 : RE X.K sb Γ σ G2 μ2 H2 b u).w.mono X3).mono X4, (r4 : RE X.K se Γ σ G4 μ4 H4 c w').w, e, q⟩
      | false =>
        rw [if_neg Bool.false_ne_true]
        exact Go.val (Go.shift g2 X3) S3 (.of rfl)
    | _ => exact g2.elim
theorem s_chain (O : XOk T ca cx n N W sc X) (o o' : Cm) (pa : PE X l (tI X.K ca W (ρE X.K sa) ea)) (pb : PE X m (tI X.K ca W (ρE X.K sb) eb)) (pc : PE X r (tI X.K ca W (ρE X.K se) ec)) (hm : lastMarks [cmA o, cmA o'] [m, r] = false) {st : Bool} :
    PE X (.Compare l [cmA o, cmA o'] [m, r] p) (tI X.K ca W (ρE X.K st) (fun Γ h => bnd (ea Γ h) fun x h => bnd (eb Γ h) fun y h => match cmpD o h x y with
      | some (.bl true) => bnd (ec Γ h) fun z h => liftO (cmpD o' h y z) h
      | some (.bl false) => some (.ok (.bl false) h)
      | _ => none)) ∧
    PT X (.Compare l [cmA o, cmA o'] [m, r] p) (tI X.K ca W ρB (fun Γ h => toB (bnd (ea Γ h) fun x h => bnd (eb Γ h) fun y h => match cmpD o h x y with
      | some (.bl true) => bnd (ec Γ h) fun z h => liftO (cmpD o' h y z) h
      | some (.bl false) => some (.ok (.bl false) h)
      | _ => none))) :=
  have hu := hu_room O
  ⟨(pe_chain (op_cmp o (by omega)) (op_cmp o' (by omega)) pa pb pc hm).imp fun _ _ _ t => chain_read t,
   (pt_chain (op_cmp o (by omega)) (op_cmp o' (by omega)) pa pb pc hm).imp fun σ H Q ⟨R, G, μ, Γ, h, S, g⟩ => chain_read (st := true) ⟨R, G, μ, Γ, h, S, toB_go g⟩⟩

/-! ### and, or, not -/
def andO (ea eb : List Slot → List Cell → Out D) : List Slot → List Cell → Out D := fun Γ h => bnd (ea Γ h) fun x h => match x with
  | .bl true => eb Γ h
  | .bl false => some (.ok (.bl false) h)
  | _ => none
def orO (ea eb : List Slot → List Cell → Out D) : List Slot → List Cell → Out D := fun Γ h => bnd (ea Γ h) fun x h => match x with
  | .bl true => some (.ok (.bl true) h)
  | .bl false => eb Γ h
  | _ => none
def notO (ea : List Slot → List Cell → Out D) : List Slot → List Cell → Out D := fun Γ h => bnd (ea Γ h) fun x h => match x with
  | .bl b => some (.ok (.bl (!b)) h)
  | _ => none
theorem and_read {st : Bool} {Q : VK} (t : tI X.K ca W (ρE X.K st) (andO ea eb) σ H Q) : tAndV (tI X.K ca W (ρE X.K sa) ea) (tI X.K ca W (ρE X.K st) eb) σ H Q := by
  obtain ⟨R, G, μ, Γ, h, S, g⟩ := t
  refine ⟨R, G, μ, Γ, h, S, (Go.bind (ρ := ρE X.K sa) g).mono fun v H1 ⟨a, h1, G1, μ1, S1, X1, r1, g1⟩ => ?_⟩
  cases a with
  | bl b =>
    refine ⟨b, bl_at (r1 : RE X.K sa Γ σ G1 μ1 H1 (.bl b) v).w, ?_⟩
    cases b with
    | true => exact ⟨R, G1, μ1, Γ, h1, S1, g1⟩
    | false => exact Go.val g1 S1 (.of rfl)
  | _ => exact g1.elim
theorem or_read {st : Bool} {Q : VK} (t : tI X.K ca W (ρE X.K st) (orO ea eb) σ H Q) : tOrV (tI X.K ca W (ρE X.K sa) ea) (tI X.K ca W (ρE X.K st) eb) σ H Q := by
  obtain ⟨R, G, μ, Γ, h, S, g⟩ := t
  refine ⟨R, G, μ, Γ, h, S, (Go.bind (ρ := ρE X.K sa) g).mono fun v H1 ⟨a, h1, G1, μ1, S1, X1, r1, g1⟩ => ?_⟩
  cases a with
  | bl b =>
    refine ⟨b, bl_at (r1 : RE X.K sa Γ σ G1 μ1 H1 (.bl b) v).w, ?_⟩
    cases b with
    | true => exact Go.val g1 S1 (.of rfl)
    | false => exact ⟨R, G1, μ1, Γ, h1, S1, g1⟩
  | _ => exact g1.elim
theorem not_read {st : Bool} {Q : VK} (t : tI X.K ca W (ρE X.K st) (notO ea) σ H Q) : tNotV (tI X.K ca W (ρE X.K sa) ea) σ H Q := by
  obtain ⟨R, G, μ, Γ, h, S, g⟩ := t
  refine ⟨R, G, μ, Γ, h, S, (Go.bind (ρ := ρE X.K sa) g).mono fun v H1 ⟨a, h1, G1, μ1, S1, X1, r1, g1⟩ => ?_⟩
  cases a with
  | bl b => exact ⟨b, bl_at (r1 : RE X.K sa Γ σ G1 μ1 H1 (.bl b) v).w, Go.val g1 S1 (.of rfl)⟩
  | _ => exact g1.elim
/-- from a test's wish: first the test a -/
theorem toB_first {R : Fr} {Γ : List Slot} {G : Hp} {μ : List Addr} {r : Out D} {f : D → List Cell → Out D} {Q : Bool → Hp → Prop} (g : Go X.K ca W R Γ σ ρB G μ H (toB (bnd r f)) Q) (hf : ∀ d h, (∀ b, d ≠ .bl b) → f d h = none) :
    Go X.K ca W R Γ σ ρB G μ H (toB r) (fun b H1 => ∃ (h1 : List Cell) (G1 : Hp) (μ1 : List Addr), Sim X.K R G1 μ1 Γ h1 σ H1 ∧ Ext Γ σ G μ H G1 μ1 H1 ∧ Go X.K ca W R Γ σ ρB G1 μ1 H1 (toB (f (.bl b) h1)) Q) := by
  match r, g with
  | none, g => exact g
  | some (.exc e h'), g => exact g
  | some (.ok d h'), g =>
    have g' : Go X.K ca W R Γ σ ρB G μ H (toB (f d h')) Q := g
    cases d with
    | bl b =>
      intro b' G1 μ1 H1 S1 X1 e
      have e' : b = b' := e
      subst e'
      exact ⟨h', G1, μ1, S1, X1, Go.shift g' X1⟩
    | _ =>
      rw [hf _ _ (fun b z => by cases z)] at g'
      exact g'.elim
theorem and_readT {Q : Bool → Hp → Prop} (t : tI X.K ca W ρB (fun Γ h => toB (andO ea eb Γ h)) σ H Q) : tAnd (tI X.K ca W ρB (fun Γ h => toB (ea Γ h))) (tI X.K ca W ρB (fun Γ h => toB (eb Γ h))) σ H Q := by
  obtain ⟨R, G, μ, Γ, h, S, g⟩ := t
  refine ⟨R, G, μ, Γ, h, S, (toB_first g fun d h hd => ?_).mono fun b H1 ⟨h1, G1, μ1, S1, X1, g1⟩ => ?_⟩
  · cases d <;> first | exact absurd rfl (hd _) | rfl
  · cases b with
    | true => exact ⟨R, G1, μ1, Γ, h1, S1, g1⟩
    | false => exact Go.val (b := false) g1 S1 rfl
theorem or_readT {Q : Bool → Hp → Prop} (t : tI X.K ca W ρB (fun Γ h => toB (orO ea eb Γ h)) σ H Q) : tOr (tI X.K ca W ρB (fun Γ h => toB (ea Γ h))) (tI X.K ca W ρB (fun Γ h => toB (eb Γ h))) σ H Q := by
  obtain ⟨R, G, μ, Γ, h, S, g⟩ := t
  refine ⟨R, G, μ, Γ, h, S, (toB_first g fun d h hd => ?_).mono fun b H1 ⟨h1, G1, μ1, S1, X1, g1⟩ => ?_⟩
  · cases d <;> first | exact absurd rfl (hd _) | rfl
  · cases b with
    | true => exact Go.val (b := true) g1 S1 rfl
    | false => exact ⟨R, G1, μ1, Γ, h1, S1, g1⟩
theorem not_readT {Q : Bool → Hp → Prop} (t : tI X.K ca W ρB (fun Γ h => toB (notO ea Γ h)) σ H Q) : tNot (tI X.K ca W ρB (fun Γ h => toB (ea Γ h))) σ H Q := by
  obtain ⟨R, G, μ, Γ, h, S, g⟩ := t
  refine ⟨R, G, μ, Γ, h, S, (toB_first g fun d h hd => ?_).mono fun b H1 ⟨h1, G1, μ1, S1, X1, g1⟩ => ?_⟩
  · cases d <;> first | exact absurd rfl (hd _) | rfl
  · exact Go.val (b := !b) g1 S1 rfl
theorem ite_read {et : List Slot → List Cell → Out D} {st : Bool} {Q : VK} (t : tI X.K ca W (ρE X.K st) (fun Γ h => bnd (et Γ h) fun x h => match x with
    | .bl true => ea Γ h
    | .bl false => eb Γ h
    | _ => none) σ H Q) : tIf (tI X.K ca W ρB (fun Γ h => toB (et Γ h))) (tI X.K ca W (ρE X.K st) ea) (tI X.K ca W (ρE X.K st) eb) σ H Q := by
  obtain ⟨R, G, μ, Γ, h, S, g⟩ := t
  dsimp only at g
  refine ⟨R, G, μ, Γ, h, S, ?_⟩
  dsimp only
  cases z : et Γ h with
  | none => rw [z] at g; exact g.elim
  | some r =>
    rw [z] at g
    cases r with
    | exc e h' => exact g
    | ok d h' =>
      cases d with
      | bl b =>
        intro b' G1 μ1 H1 S1 X1 e
        have e' : b = b' := e
        subst e'
        have g' := Go.shift g X1
        cases b with
        | true => exact ⟨R, G1, μ1, Γ, h', S1, g'⟩
        | false => exact ⟨R, G1, μ1, Γ, h', S1, g'⟩
      | _ => exact g.elim

/-! ### argument lists -/
theorem args_read {as : List CE} {a : CE} {f : CE → List Slot → List Cell → Out D} {fs : List Slot → List Cell → Out (List D)} {Q : List V → Hp → Prop} (hs : se = true)
    (t : tI X.K ca W (ρL X.K) (fun Γ h => bnd (ea Γ h) fun x h => bnd (fs Γ h) fun xs h => some (.ok (x :: xs) h)) σ H Q) : tCons (tI X.K ca W (ρE X.K se) ea) (tI X.K ca W (ρL X.K) fs) σ H Q := by
  obtain ⟨R, G, μ, Γ, h, S, g⟩ := t
  refine ⟨R, G, μ, Γ, h, S, (Go.bind (ρ := ρE X.K se) g).mono fun v H1 ⟨x, h1, G1, μ1, S1, X1, r1, g1⟩ => ?_⟩
  refine ⟨R, G1, μ1, Γ, h1, S1, (Go.bind (ρ := ρL X.K) g1).mono fun vs H2 ⟨xs, h2, G2, μ2, S2, X2, r2, g2⟩ => ?_⟩
  exact Go.val g2 S2 (RDs.cons (((r1 : RE X.K se Γ σ G1 μ1 H1 x v).s hs).mono X2.gg X2.mm) r2)
theorem nil_read {Q : List V → Hp → Prop} (t : tI X.K ca W (ρL X.K) (fun _ h => some (.ok [] h)) σ H Q) : tNil σ H Q := by
  obtain ⟨R, G, μ, Γ, h, S, g⟩ := t
  exact Go.val g S RDs.nil
variable {es : List Expr} {el : List Slot → List Cell → Out (List D)}
theorem s_tup {k : Nat} (pa : PA X es (tI X.K ca W (ρL X.K) el)) : PE X (.Tuple es k p) (tI X.K ca W (ρE X.K se) (fun Γ h => bnd (el Γ h) fun xs h => if xs.length ≤ maxLen then some (.ok (.tup xs) h) else none)) := by
  refine (pe_tup pa).imp fun σ H Q ⟨R, G, μ, Γ, h, S, g⟩ => ?_
  refine ⟨R, G, μ, Γ, h, S, (Go.bind (ρ := ρL X.K) g).mono fun vs H1 ⟨xs, h1, G1, μ1, S1, X1, r1, g1⟩ => ?_⟩
  split at g1
  · rename_i hz
    refine ⟨by rw [← RDs.len r1]; exact le_sl hz, fun q hq => ?_⟩
    obtain ⟨S2, X2, r2⟩ := new_tup hz r1 hq S1
    exact g1 _ _ _ _ S2 X2 (.of r2)
  · exact g1.elim
theorem fresh_own {R : Fr} {Γ : List Slot} {G : Hp} {μ : List Addr} {h : List Cell} (S : Sim K R G μ Γ h σ H) {q : Addr} (hq : H q = none) : G q = none ∧ R.F q = none ∧ q ∉ μ ∧ ∀ (i : Nat) (c : Cell), Γ[i]? = some (.own c) → σ[i]? ≠ some (some (.ref q)) := by
  refine ⟨S.gh.free hq, S.fh.free hq, fun z => ?_, fun i c e1 e2 => ?_⟩
  · obtain ⟨o, ho⟩ := S.mem_there z
    rw [hq] at ho
    cases ho
  · obtain ⟨a, q1, c1, _⟩ := S.slots i _ e1
    rw [e2] at q1
    cases q1
    obtain ⟨o, ho⟩ := c1.there
    rw [hq] at ho
    cases ho
theorem s_lstF (pa : PA X es (tI X.K ca W (ρL X.K) el)) : PE X (.List es p) (tI X.K ca W (ρF X.K) (fun Γ h => bnd (el Γ h) fun xs h => if xs.length ≤ maxLen then some (.ok (.lst xs) h) else none)) := by
  refine (pe_lst pa).imp fun σ H Q ⟨R, G, μ, Γ, h, S, g⟩ => ?_
  refine ⟨R, G, μ, Γ, h, S, (Go.bind (ρ := ρL X.K) g).mono fun vs H1 ⟨xs, h1, G1, μ1, S1, X1, r1, g1⟩ => ?_⟩
  split at g1
  · rename_i hz
    refine ⟨by rw [← RDs.len r1]; exact le_sl hz, fun q hq => ?_⟩
    obtain ⟨S2, X2⟩ := S1.lay (o := .lst vs) hq
    obtain ⟨f1, f2, f3, f4⟩ := fresh_own S1 hq
    exact g1 _ _ _ _ S2 X2 ⟨q, .lst xs, rfl, rfl, ⟨vs, upd_same, hz, r1⟩, f1, f2, f3, f4⟩
  · exact g1.elim
/-- a fresh thing, frozen -/
theorem frz_of {ev : List Slot → List Cell → Out D} {Q : VK} (t : tI K ca W (ρE K se) ev σ H Q) : tI K ca W (ρF K) ev σ H Q := by
  obtain ⟨R, G, μ, Γ, h, S, g⟩ := t
  refine ⟨R, G, μ, Γ, h, S, ?_⟩
  match ev Γ h, g with
  | none, g => exact g
  | some (.exc e h'), g => exact g
  | some (.ok d h'), g =>
    intro v G1 μ1 H1 S1 X1 hv
    obtain ⟨q, c, rfl, rfl, hc, f1, f2, f3, f4⟩ := hv
    obtain ⟨o, ho⟩ := hc.there
    obtain ⟨S2, X2⟩ := S1.frz ho f1 f2 f3 f4
    exact g _ _ _ _ S2 (X1.trans X2) (.of (hc.frz X2.gg (by rw [upd_same]; exact ho.symm)))
/-- a fresh thing becomes a cell -/
theorem new_of {ev : List Slot → List Cell → Out D} {Q : VK} (t : tI K ca W (ρE K se) (fun Γ h => bnd (ev Γ h) fun x h => newCell h x) σ H Q) : tI K ca W (ρF K) ev σ H Q := by
  obtain ⟨R, G, μ, Γ, h, S, g⟩ := t
  refine ⟨R, G, μ, Γ, h, S, (Go.bind (ρ := ρF K) g).mono fun v H1 ⟨d, h1, G1, μ1, S1, X1, r1, g1⟩ => ?_⟩
  obtain ⟨q, c, rfl, rfl, hc, f1, f2, f3, f4⟩ := r1
  obtain ⟨S2, X2⟩ := S1.cell hc f1 f2 f3 f4
  have e : (μ1 ++ [q])[h1.length]? = some q := by
    rw [← S1.len]
    simp
  cases c with
  | lst ds => exact g1 _ _ _ _ S2 X2 (.of ⟨q, rfl, e⟩)
  | dct ks xs => exact g1 _ _ _ _ S2 X2 (.of ⟨q, rfl, e⟩)
  | ins _ _ => exact hc.elim
end
end DC

set_option linter.all false
set_option Elab.async false
set_option maxRecDepth 100000
set_option maxHeartbeats 4000000
/-! DExp2: calls, subscripts, slices, dict displays of the small language. -/
namespace DC
open PySem L2 PySem.Spec PyProof.Rows
section
variable {T : Tb} {ca : Nat → Addr} {cx : Ck} {n : Nat} {N : List Str} {W : WX} {sc : Scope} {X : Cx} {σ : L2.St} {H : Hp}
variable {l r m e : Expr} {p pp : Pos} {ea eb ec : List Slot → List Cell → Out D} {sa sb se : Bool}
theorem bootB1 (f : B1) : bootBuiltins (Str.ofString (b1N f)) = some (b1V f) := by cases f <;> decide +kernel
theorem b1_mem (f : B1) : b1N f ∈ bltNames := by cases f <;> decide
theorem bootB2 (f : B2) : bootBuiltins (Str.ofString (b2N f)) = some (b2V f) := by cases f <;> decide +kernel
theorem b2_mem (f : B2) : b2N f ∈ bltNames := by cases f <;> decide
theorem bootTy (t : Ty) : bootBuiltins (Str.ofString (tyN t)) = some (.type (tyN t)) := by cases t <;> decide +kernel
theorem ty_mem (t : Ty) : tyN t ∈ bltNames := by cases t <;> decide
theorem one_read {f : List Cell → D → Option D} {st : Bool} {Q : VK} (t : tI X.K ca W (ρE X.K st) (fun Γ h => bnd (ea Γ h) fun x h => liftO (f h x) h) σ H Q) :
    tCB (rC1 X.K f) (tCons (tI X.K ca W (ρE X.K sa) ea) tNil) σ H Q := by
  obtain ⟨R, G, μ, Γ, h, S, g⟩ := t
  refine ⟨R, G, μ, Γ, h, S, (Go.bind (ρ := ρE X.K sa) g).mono fun v H1 ⟨a, h1, G1, μ1, S1, X1, r1, g1⟩ => ?_⟩
  obtain ⟨d, ed, q⟩ := liftO_go g1
  exact ⟨v, rfl, R, G1, μ1, Γ, h1, σ, a, d, S1, (r1 : RE X.K sa Γ σ G1 μ1 H1 a v).w, ed, q⟩
theorem s_b1 (O : XOk T ca cx n N W sc X) (f : B1) (hg : glB sc (Str.ofString (b1N f)) = true) (pa : PE X l (tI X.K ca W (ρE X.K sa) ea)) (hs : isStar l = false) :
    PE X (.Call (.Name (Str.ofString (b1N f)) pp) [l] [] p) (tI X.K ca W (ρE X.K se) (fun Γ h => bnd (ea Γ h) fun x h => liftO (b1D f h x) h)) := by
  obtain ⟨h1, h2⟩ := gl_of O hg
  obtain ⟨d1, d2, d3⟩ := nm_dbg h2
  have hv := bootB1 f
  have hm := blt_of O (b1_mem f)
  have hc := call_b1 (X := X) O.calm f
  have ha := pa_cons pa pa_nil (star_of hs [] X.env)
  have hst := star_of hs [] X.env
  refine PE.imp (t := tCB (rC1 X.K (b1D f)) (tCons (tI X.K ca W (ρE X.K sa) ea) tNil)) ?_ fun _ _ _ t => one_read t
  cases f <;> first
    | exact pe_callB hc h1 hm hv ha d3 d1 hst rfl
    | exact pe_callTy hc h1 hm hv ha d3 d1 hst rfl
theorem two_read {f : List Cell → D → D → Option D} {st : Bool} {Q : VK} (t : tI X.K ca W (ρE X.K st) (fun Γ h => bnd (ea Γ h) fun x h => bnd (eb Γ h) fun y h => liftO (f h x y) h) σ H Q) :
    tCB (rC2 X.K f) (tCons (tI X.K ca W (ρE X.K sa) ea) (tCons (tI X.K ca W (ρE X.K sb) eb) tNil)) σ H Q := by
  obtain ⟨R, G, μ, Γ, h, S, g⟩ := t
  refine ⟨R, G, μ, Γ, h, S, (Go.bind (ρ := ρE X.K sa) g).mono fun v H1 ⟨a, h1, G1, μ1, S1, X1, r1, g1⟩ => ?_⟩
  refine ⟨R, G1, μ1, Γ, h1, S1, (Go.bind (ρ := ρE X.K sb) g1).mono fun u H2 ⟨b, h2, G2, μ2, S2, X2, r2, g2⟩ => ?_⟩
  obtain ⟨d, ed, q⟩ := liftO_go g2
  exact ⟨v, u, rfl, R, G2, μ2, Γ, h2, σ, a, b, d, S2, (r1 : RE X.K sa Γ σ G1 μ1 H1 a v).w.mono X2, (r2 : RE X.K sb Γ σ G2 μ2 H2 b u).w, ed, q⟩
theorem s_b2 (O : XOk T ca cx n N W sc X) (f : B2) (hg : glB sc (Str.ofString (b2N f)) = true) (pa : PE X l (tI X.K ca W (ρE X.K sa) ea)) (pb : PE X r (tI X.K ca W (ρE X.K sb) eb)) (hs : isStar l = false) (hs2 : isStar r = false) :
    PE X (.Call (.Name (Str.ofString (b2N f)) pp) [l, r] [] p) (tI X.K ca W (ρE X.K se) (fun Γ h => bnd (ea Γ h) fun x h => bnd (eb Γ h) fun y h => liftO (b2D f x y) h)) := by
  obtain ⟨h1, h2⟩ := gl_of O hg
  obtain ⟨d1, d2, d3⟩ := nm_dbg h2
  have hv := bootB2 f
  have hm := blt_of O (b2_mem f)
  have hc := call_b2 (X := X) O.calm f
  have ha := pa_cons pa (pa_cons pb pa_nil (star_of hs2 [] X.env)) (star_of hs [r] X.env)
  refine PE.imp (t := tCB (rC2 X.K fun _ => b2D f) (tCons (tI X.K ca W (ρE X.K sa) ea) (tCons (tI X.K ca W (ρE X.K sb) eb) tNil))) ?_ fun _ _ _ t => two_read (f := fun _ => b2D f) t
  have hpl : (backTo p (starEach [r] X.env)).any (·.1) = false := pair_swap _ _ (by rw [star_of hs2]; rfl)
  cases f <;> exact pe_callB hc h1 hm hv ha d3 d1 (star_of hs [r] X.env) hpl
theorem s_isi (O : XOk T ca cx n N W sc X) (t : Ty) (hg : glB sc ("isinstance" : Str) = true) (hg2 : glB sc (Str.ofString (tyN t)) = true) (pa : PE X l (tI X.K ca W (ρE X.K sa) ea)) (hs : isStar l = false) {p2 : Pos} :
    PE X (.Call (.Name ("isinstance" : Str) pp) [l, .Name (Str.ofString (tyN t)) p2] [] p) (tI X.K ca W (ρE X.K se) (fun Γ h => bnd (ea Γ h) fun x h => liftO ((isiD t h x).map .bl) h)) := by
  obtain ⟨h1, h2⟩ := gl_of O hg
  obtain ⟨d1, d2, d3⟩ := nm_dbg h2
  obtain ⟨k1, k2⟩ := gl_of O hg2
  obtain ⟨e1, e2, e3⟩ := nm_dbg k2
  have pt : PE X (.Name (Str.ofString (tyN t)) p2) (tC (.ty (tyN t))) := pe_bltn k1 (blt_of O (ty_mem t)) (bootTy t) rfl e3 e1
  have ha := pa_cons pa (pa_cons pt pa_nil) (star_of hs _ X.env)
  refine (pe_callB (isi_D t) h1 (blt_of O (x := "isinstance") (by decide)) (by decide +kernel) ha d3 d1 (star_of hs _ X.env) rfl).imp fun σ H Q t => ?_
  obtain ⟨R, G, μ, Γ, h, S, g⟩ := t
  refine ⟨R, G, μ, Γ, h, S, (Go.bind (ρ := ρE X.K sa) g).mono fun v H1 ⟨a, h1, G1, μ1, S1, X1, r1, g1⟩ => ?_⟩
  obtain ⟨d, ed, q⟩ := liftO_go g1
  exact ⟨v, rfl, R, G1, μ1, Γ, h1, σ, a, d, S1, (r1 : RE X.K sa Γ σ G1 μ1 H1 a v).w, ed, q⟩
theorem s_join {x : Str} {kk : Nat} {kp ap : Pos} (hx : x.length ≤ maxLen) (pa : PE X l (tI X.K ca W (ρE X.K sb) eb)) (hs : isStar l = false) (hl : (ap.endLine == p.line) = true) :
    PE X (.Call (.Attribute (.Constant (.str x) kk kp) ("join" : Str) ap) [l] [] p) (tI X.K ca W (ρE X.K se) (fun Γ h => bnd (some (.ok (.str x) h)) fun a h => bnd (eb Γ h) fun y h => liftO (bmD .join h a y) h)) := by
  refine (pe_m1 PySem.F.slot_str_join PySem.F.type_str_join mt_joinD pe_str pa (by rw [star_of hs]; rfl) rfl hl).imp fun σ H Q t => ?_
  obtain ⟨R, G, μ, Γ, h, S, g⟩ := t
  refine ⟨⟨x, rfl⟩, R, G, μ, Γ, h, S, ?_⟩
  have g' : Go X.K ca W R Γ σ (ρE X.K se) G μ H (bnd (eb Γ h) fun y h => liftO (bmD .join h (.str x) y) h) Q := g
  refine (Go.bind (ρ := ρE X.K sb) g').mono fun u H1 ⟨b, h1, G1, μ1, S1, X1, r1, g1⟩ => ?_
  obtain ⟨d, ed, q⟩ := liftO_go g1
  exact ⟨u, rfl, R, G1, μ1, Γ, h1, σ, .str x, b, d, S1, .inl ⟨rfl, hx⟩, (r1 : RE X.K sb Γ σ G1 μ1 H1 b u).w, ed, q⟩
/-! ### a def of the text -/
theorem go_call (O : XOk T ca cx n N W sc X) {R : Fr} {G : Hp} {μ : List Addr} {Γ : List Slot} {h : List Cell} {f : Nat} {ds : List D} {vs : List V} {st : Bool} {Q : VK} (S : Sim X.K R G μ Γ h σ H) (t : RDs X.K G μ ds vs) (g : Go X.K ca W R Γ σ (ρE X.K st) G μ H (callN T n f ds h) Q) :
    spFn X.K ca T n f vs H Q (WE W σ) := by
  have S0 := S.enter
  cases hn : T.fn f with
  | none =>
    have e : callN T n f ds h = none := by
      cases n with
      | zero => rfl
      | succ k => rw [callN, hn]
    rw [e] at g
    exact g.elim
  | some F =>
    by_cases hl : ds.length = F.ar
    · refine ⟨G, μ, h, ds, F, S0, t, hn, hl, ?_⟩
      match callN T n f ds h, g with
      | none, g => exact g
      | some (.ok d h'), g =>
        intro v G1 μ1 H1 S1 X1 r1
        obtain ⟨S2, X2⟩ := S.back S1
        exact g v G1 μ1 H1 S2 X2 (.of (RE.s r1 rfl))
      | some (.exc e h'), g =>
        intro cls dx G1 μ1 H1 S1 ex
        obtain ⟨S2, X2⟩ := S.back S1
        exact g cls dx G1 μ1 H1 S2 ex
    · have e : callN T n f ds h = none := by
        cases n with
        | zero => rfl
        | succ k =>
          rw [callN, hn]
          exact if_neg hl
      rw [e] at g
      exact g.elim
variable {es : List Expr} {el : List Slot → List Cell → Out (List D)}
theorem s_call (O : XOk T ca cx n N W sc X) {f : Nat} {x : Str} (hg : glB sc x = true) (hf : cx.fnm f = some x) (pa : PA X (l :: es) (tI X.K ca W (ρL X.K) el)) (hs : isStar l = false) (hs2 : (starEach es X.env).any (·.1) = false) :
    PE X (.Call (.Name x pp) (l :: es) [] p) (tI X.K ca W (ρE X.K se) (fun Γ h => bnd (el Γ h) fun xs h => callN T n f xs h)) := by
  obtain ⟨h1, h2⟩ := gl_of O hg
  obtain ⟨d1, d2, d3⟩ := nm_dbg h2
  obtain ⟨fa, fd, ps, m1, m2, m3, m4⟩ := O.wd.fns f x hf
  refine (pe_callS m4 O.room h1 m1 m2 m3 (E := WE W) (fun σ => passAt O.takes σ) pa d1 (star_of hs es X.env) (pair_swap _ _ hs2)).imp fun σ H Q t => ?_
  obtain ⟨R, G, μ, Γ, h, S, g⟩ := t
  refine ⟨R, G, μ, Γ, h, S, (Go.bind (ρ := ρL X.K) g).mono fun vs H1 ⟨xs, h1, G1, μ1, S1, X1, r1, g1⟩ => ?_⟩
  exact go_call O S1 r1 g1
theorem s_call0 (O : XOk T ca cx n N W sc X) {f : Nat} {x : Str} (hg : glB sc x = true) (hf : cx.fnm f = some x) :
    PE X (.Call (.Name x pp) [] [] p) (tI X.K ca W (ρE X.K se) (fun Γ h => callN T n f [] h)) := by
  obtain ⟨h1, h2⟩ := gl_of O hg
  obtain ⟨d1, d2, d3⟩ := nm_dbg h2
  obtain ⟨fa, fd, ps, m1, m2, m3, m4⟩ := O.wd.fns f x hf
  refine ⟨fun pins s σ H Q I t => ?_⟩
  obtain ⟨R, G, μ, Γ, h, S, g⟩ := t
  refine wpAny_Call_Name_kw (ld_glob I h1 m1 ?_ d1)
  exact PySem.W.callWith_K0 I.kIn m2 (run_fnS (us := []) (vs := []) (E := WE W) m4 O.room m3 (passAt O.takes σ) I .nil (go_call O S RDs.nil g))
theorem plain_ix {b : Expr} (h : isSlice b = false) : PlainIx b := by
  intro o i
  cases b <;> first | rfl | (cases h)
theorem s_ix (O : XOk T ca cx n N W sc X) (pa : PE X l (tI X.K ca W (ρE X.K sa) ea)) (pb : PE X r (tI X.K ca W (ρE X.K sb) eb)) (hs : isSlice r = false) :
    PE X (.Subscript l r p) (tI X.K ca W (ρE X.K se) (fun Γ h => bnd (ea Γ h) fun x h => bnd (eb Γ h) fun y h => liftO (ixD h x y) h)) :=
  have hu := hu_room O
  (pe_ix (ix_D (by omega)) pa pb (plain_ix hs)).imp fun _ _ _ t => two_of t
end
end DC

set_option linter.all false
set_option Elab.async false
set_option maxRecDepth 100000
set_option maxHeartbeats 4000000
/-! DExp3: slices, dict displays, what is walked, targets, comprehensions. -/
namespace DC
open PySem L2 PySem.Spec PyProof.Rows
section
variable {T : Tb} {ca : Nat → Addr} {cx : Ck} {n : Nat} {N : List Str} {W : WX} {sc : Scope} {X : Cx} {σ : L2.St} {H : Hp}
variable {l r m e : Expr} {p pp : Pos} {ea eb ec : List Slot → List Cell → Out D} {sa sb se : Bool}
/-! ### slices -/
/-- a bound's text: left out, or an expression -/
def BdOk (X : Cx) (ca : Nat → Addr) (W : WX) (b : Bool) (x : Option Expr) (ev : List Slot → List Cell → Out D) : Prop :=
  match x with
  | none => b = true ∧ ∀ Γ h, ev Γ h = some (.ok .non h)
  | some x => b = false ∧ ∃ st, PE X x (tI X.K ca W (ρE X.K st) ev)
def tBd (X : Cx) (ca : Nat → Addr) (W : WX) (x : Option Expr) (ev : List Slot → List Cell → Out D) (st : Bool) : TO := match x with
  | none => tNoPart
  | some _ => tPart (tI X.K ca W (ρE X.K st) ev)
theorem bd_part {b : Bool} {x : Option Expr} {ev : List Slot → List Cell → Out D} (h : BdOk X ca W b x ev) : ∃ st, PO X x (tBd X ca W x ev st) := by
  cases x with
  | none => exact ⟨true, po_none⟩
  | some x =>
    obtain ⟨_, st, pe⟩ := h
    exact ⟨st, po_some pe⟩
/-- a bound that is asked, then the rest -/
theorem bd_read {b : Bool} {x : Option Expr} {ev : List Slot → List Cell → Out D} (hb : BdOk X ca W b x ev) {st : Bool} {R : Fr} {G : Hp} {μ : List Addr} {Γ : List Slot} {h : List Cell} {γ δ : Type} {ρ : Rel γ δ} {f : Option Int → List Cell → Out γ} {Q : δ → Hp → Prop} {C : Option Int → Hp → Prop}
    (S : Sim X.K R G μ Γ h σ H) (g : Go X.K ca W R Γ σ ρ G μ H (bnd (ev Γ h) fun d h => match boundC b d with | some o => f o h | none => none) Q)
    (k : ∀ o h1 G1 μ1 H1, Sim X.K R G1 μ1 Γ h1 σ H1 → Ext Γ σ G μ H G1 μ1 H1 → Go X.K ca W R Γ σ ρ G1 μ1 H1 (f o h1) Q → C o H1) : tBd X ca W x ev st σ H C := by
  cases x with
  | none =>
    obtain ⟨rfl, e⟩ := hb
    rw [e Γ h] at g
    exact k none h G μ H S .refl g
  | some x =>
    obtain ⟨rfl, _⟩ := hb
    refine ⟨R, G, μ, Γ, h, S, (Go.bind (ρ := ρE X.K st) g).mono fun v H1 ⟨a, h1, G1, μ1, S1, X1, r1, g1⟩ => ?_⟩
    cases a with
    | int i => exact ⟨i, int_at (r1 : RE X.K st Γ σ G1 μ1 H1 (.int i) v).w, k (some i) h1 G1 μ1 H1 S1 X1 g1⟩
    | _ => exact g1.elim
theorem s_sl {x y : Option Expr} {p2 : Pos} {bl bh : Bool} (pa : PE X l (tI X.K ca W (ρE X.K sa) ea)) (hl : BdOk X ca W bl x eb) (hh : BdOk X ca W bh y ec) :
    PE X (.Subscript l (.Slice x y none p2) p) (tI X.K ca W (ρE X.K se) (fun Γ h => bnd (ea Γ h) fun a h => bnd (eb Γ h) fun lo h => match boundC bl lo with
      | some lo => bnd (ec Γ h) fun hi h => match boundC bh hi with
        | some hi => liftO (slI h a lo hi) h
        | none => none
      | none => none)) := by
  obtain ⟨s1, p1⟩ := bd_part hl
  obtain ⟨s2, p2⟩ := bd_part hh
  refine (pe_slice sl_D pa p1 p2).imp fun σ H Q t => ?_
  obtain ⟨R, G, μ, Γ, h, S, g⟩ := t
  refine ⟨R, G, μ, Γ, h, S, (Go.bind (ρ := ρE X.K sa) g).mono fun v H1 ⟨a, h1, G1, μ1, S1, X1, r1, g1⟩ => ?_⟩
  have r1' := (r1 : RE X.K sa Γ σ G1 μ1 H1 a v).w
  refine bd_read hl S1 g1 fun lo h2 G2 μ2 H2 S2 X2 g2 => ?_
  refine bd_read hh S2 g2 fun hi h3 G3 μ3 H3 S3 X3 g3 => ?_
  obtain ⟨d, ed, q⟩ := liftO_go g3
  exact ⟨R, G3, μ3, Γ, h3, σ, a, d, S3, (r1'.mono X2).mono X3, ed, q⟩

/-! ### dict displays -/
theorem merge_nodup : ∀ (kvs more : List (Key × V)), ((kvs ++ more).map (·.1)).Nodup → mergeK kvs more = kvs ++ more
  | kvs, [], _ => by
    rw [List.append_nil]
    rfl
  | kvs, p :: more, h => by
    have e : mergeK kvs (p :: more) = mergeK (putK kvs p.1 p.2) more := rfl
    have e2 : putK kvs p.1 p.2 = kvs ++ [p] := by
      unfold putK
      rw [if_neg]
      intro z
      rw [List.any_eq_true] at z
      obtain ⟨q, hq, hk⟩ := z
      have hk : q.1 = p.1 := of_decide_eq_true hk
      rw [List.map_append, List.nodup_append] at h
      exact h.2.2 q.1 (List.mem_map.mpr ⟨q, hq, rfl⟩) p.1 (by simp) hk
    rw [e, e2, merge_nodup (kvs ++ [p]) more (by rw [List.append_assoc]; exact h), List.append_assoc]
    rfl
theorem pe_key {k : Key} {e : Expr} (h : keyC k (some e) = true) : PE X e (tC (kV k)) := by
  unfold keyC at h
  split at h
  · rename_i e'
    injection e' with e'
    subst e'
    have := of_decide_eq_true h
    subst this
    exact pe_int
  · rename_i e'
    injection e' with e'
    subst e'
    have := of_decide_eq_true h
    subst this
    exact pe_str
  · cases h
/-- the pairs' readings: keys are written, values one behind the other -/
def DP (X : Cx) (ca : Nat → Addr) (W : WX) (pos : Pos) (ks : List Key) (keys : List (Option Expr)) (vals : List Expr) (el : List Slot → List Cell → Out (List D)) : Prop :=
  ∃ trs, PPs X pos keys vals trs ∧ ∀ (σ : L2.St) (H : Hp) (R : Fr) (G : Hp) (μ : List Addr) (Γ : List Slot) (h : List Cell) (Q : List (V × V) → Hp → Prop), Sim X.K R G μ Γ h σ H →
    Go X.K ca W R Γ σ (ρL X.K) G μ H (el Γ h) (fun vs H' => vs.length = ks.length → Q ((ks.map kV).zip vs) H') → (∀ ds h', el Γ h = some (.ok ds h') → ds.length = ks.length) → tPairs trs σ H Q
theorem dp_nil {pos : Pos} : DP X ca W pos [] [] [] (fun _ h => some (.ok [] h)) :=
  ⟨[], pps_nil, fun σ H R G μ Γ h Q S g _ => (Go.val (b := []) g S RDs.nil) rfl⟩
theorem dp_cons {pos : Pos} {k : Key} {ks : List Key} {k' : Option Expr} {keys : List (Option Expr)} {v : Expr} {vals : List Expr} {el : List Slot → List Cell → Out (List D)} (hk : keyC k k' = true) (hv : PE X v (tI X.K ca W (ρE X.K se) ea)) (hs : se = true) (hr : DP X ca W pos ks keys vals el) :
    DP X ca W pos (k :: ks) (k' :: keys) (v :: vals) (fun Γ h => bnd (ea Γ h) fun x h => bnd (el Γ h) fun xs h => some (.ok (x :: xs) h)) := by
  obtain ⟨trs, p1, p2⟩ := hr
  cases k' with
  | none => cases hk
  | some k' =>
    refine ⟨(tC (kV k), _) :: trs, pps_cons (pe_key hk) hv p1, fun σ H R G μ Γ h Q S g hlen => ?_⟩
    refine ⟨R, G, μ, Γ, h, S, ?_⟩
    cases z : ea Γ h with
    | none => simp only [z] at g; exact g.elim
    | some r =>
      cases r with
      | exc e h' => simp only [z] at g; exact g
      | ok d h1 =>
        simp only [z] at g hlen
        intro w G1 μ1 H1 S1 X1 r1
        refine p2 σ H1 R G1 μ1 Γ h1 _ S1 ?_ fun ds h' e => ?_
        · have g' : Go X.K ca W R Γ σ (ρL X.K) G μ H (bnd (el Γ h1) fun xs h => some (.ok (d :: xs) h)) _ := g
          refine ((Go.shift g' X1).bind).mono fun ws H2 ⟨xs, h2, G2, μ2, S2, X2, r2, g2⟩ hl => ?_
          exact Go.val (b := w :: ws) g2 S2 (RDs.cons ((RE.s r1 hs).mono X2.gg X2.mm) r2) (by simp [hl])
        · have := hlen (d :: ds) h' (by show (bnd (el Γ h1) fun xs h => some (Res.ok (d :: xs) h)) = _; rw [e]; rfl)
          simpa using this
/-- the same wish where more is to stay -/
theorem Go.addF {α β : Type} {R : Fr} {Γ : List Slot} {G : Hp} {μ : List Addr} {r : Out α} {ρ : Rel α β} {Q : β → Hp → Prop} {K : PySem.W.Frag} {q : Addr} {o : HO} (g : Go K ca W R Γ σ ρ G μ H r Q) (hq : R.F q = none) {C : β → Hp → Prop}
    (k : ∀ a h' b G' μ' H', r = some (.ok a h') → Sim K ⟨upd R.F q o, R.G0, R.μ0⟩ G' μ' Γ h' σ H' → Ext Γ σ G μ H G' μ' H' → ρ ⟨upd R.F q o, R.G0, R.μ0⟩ Γ σ G' μ' H' a b → C b H') :
    Go K ca W ⟨upd R.F q o, R.G0, R.μ0⟩ Γ σ ρ G μ H r C := by
  match r, g, k with
  | none, g, k => exact g
  | some (.exc e h'), g, k => exact fun cls dx G' μ' H' S X => g cls dx G' μ' H' (S.subF (F := R.F) (Same.new hq)) X
  | some (.ok a h'), g, k => exact fun b G' μ' H' S X e => k a h' b G' μ' H' rfl S X e
theorem zip_rel {K : PySem.W.Frag} {G : Hp} {μ : List Addr} : ∀ {ks : List Key} {vs : List V}, vs.length = ks.length → (ks.map kV).zip vs = (ks.zip vs).map (fun kv => (kV kv.1, kv.2)) ∧ (ks.zip vs).map (·.1) = ks ∧ (ks.zip vs).map (·.2) = vs
  | [], [], _ => ⟨rfl, rfl, rfl⟩
  | [], _ :: _, h => by simp at h
  | _ :: _, [], h => by simp at h
  | k :: ks, v :: vs, h => by
    obtain ⟨h1, h2, h3⟩ := zip_rel (K := K) (G := G) (μ := μ) (ks := ks) (vs := vs) (by simpa using h)
    simp [h1, h2, h3]
theorem s_dct0 : PE X (.Dict [] [] p) (tI X.K ca W (ρF X.K) (fun Γ h => bnd (some (.ok [] h)) fun xs h => some (.ok (.dct [] xs) h))) := by
  refine pe_dnewK.imp fun σ H Q t q hq => ?_
  obtain ⟨R, G, μ, Γ, h, S, g⟩ := t
  obtain ⟨S1, X1⟩ := S.lay (o := .dK []) hq
  obtain ⟨f1, f2, f3, f4⟩ := fresh_own S hq
  exact g _ _ _ _ S1 X1 ⟨q, .dct [] [], rfl, rfl, ⟨[], upd_same, rfl, RDs.nil⟩, f1, f2, f3, f4⟩
theorem s_dctF {ks : List Key} {keys : List (Option Expr)} {vals : List Expr} {el : List Slot → List Cell → Out (List D)} (hp : DP X ca W p ks keys vals el) (hnd : ks.Nodup) (h15 : ks.length ≤ 15) (hl : keys.length = ks.length) (hl2 : vals.length = ks.length)
    (hall : keys.all (·.isSome) = true) (hlen : ∀ Γ h ds h', el Γ h = some (.ok ds h') → ds.length = ks.length) (h0 : keys ≠ []) :
    PE X (.Dict keys vals p) (tI X.K ca W (ρF X.K) (fun Γ h => bnd (el Γ h) fun xs h => some (.ok (.dct ks xs) h))) := by
  · obtain ⟨trs, p1, p2⟩ := hp
    refine (pe_disp p1 hall (hl.trans hl2.symm) h0 (by omega)).imp fun σ H Q t q hq => ?_
    obtain ⟨R, G, μ, Γ, h, S, g⟩ := t
    obtain ⟨S1, X1⟩ := S.lay (o := .dK []) hq
    obtain ⟨f1, f2, f3, f4⟩ := fresh_own S hq
    have S2 := S1.addF (o := .dK []) upd_same f1 f3 f4
    refine p2 σ _ _ G μ Γ h _ S2 ?_ (hlen Γ h)
    have g' := ((Go.bind (ρ := ρL X.K) g).shift X1).addF (o := .dK []) f2 (C := fun vs H2 => vs.length = ks.length → H2 q = some (.dK []) ∧ ∃ kvs : List (Key × V), (ks.map kV).zip vs = kvs.map (fun kv => (kV kv.1, kv.2)) ∧ kvs.length ≤ 15 ∧ Q (.ref q) (upd H2 q (.dK (mergeK [] kvs))))
    refine g' fun ds h' vs G' μ' H' er S3 X3 r3 hv => ?_
    have hq2 : H' q = some (.dK []) := S3.fh q _ upd_same
    have S4 := S3.subF (F := R.F) (Same.new f2)
    obtain ⟨z1, z2, z3⟩ := zip_rel (K := X.K) (G := G) (μ := μ) hv
    refine ⟨hq2, ks.zip vs, z1, by rw [List.length_zip]; omega, ?_⟩
    have em : mergeK [] (ks.zip vs) = ks.zip vs := by
      rw [merge_nodup [] _ (by rw [List.nil_append, z2]; exact hnd)]
      rfl
    rw [em]
    simp only [er] at g
    have q4 : G' q = none ∧ q ∉ μ' ∧ ∀ (i : Nat) (c : Cell), Γ[i]? = some (.own c) → σ[i]? ≠ some (some (.ref q)) := by
      refine ⟨?_, fun z => ?_, f4⟩
      · cases zz : G' q with
        | none => rfl
        | some u =>
          rcases S3.gf q (by rw [zz]; simp) with y | y
          · exact absurd (S.g0.free f1) y
          · have y' : upd R.F q (.dK []) q = none := y
            rw [upd_same] at y'
            cases y'
      · have y' : upd R.F q (.dK []) q = none := S3.mf q z
        rw [upd_same] at y'
        cases y'
    obtain ⟨S5, X5⟩ := S4.over (o := .dK (ks.zip vs)) q4.1 f2 q4.2.1 q4.2.2
    refine (Go.shift g X1 : Go X.K ca W R Γ σ (ρF X.K) G μ _ (some (.ok (.dct ks ds) h')) Q) _ G' μ' _ S5 (X3.trans X5) ⟨q, .dct ks ds, rfl, rfl, ⟨ks.zip vs, upd_same, z2, by rw [z3]; exact r3⟩, q4.1, f2, q4.2.1, q4.2.2⟩

/-! ### what is walked -/
/-- J gives the items, while what is frozen stays -/
def WalkD (K : PySem.W.Frag) (J : It) (its : List D) (G1 : Hp) (μ1 : List Addr) : Prop :=
  ∀ (i : Nat) (R : Fr) (G : Hp) (μ : List Addr) (Γ : List Slot) (h : List Cell) (σ : L2.St) (H : Hp), Sim K R G μ Γ h σ H → Same G1 G → μ1 <+: μ →
    (∀ d, its[i]? = some d → J.go i H ∧ ∀ x H', J.yld i H x H' → ∃ G', Sim K R G' μ Γ h σ H' ∧ Ext Γ σ G μ H G' μ H' ∧ RD K G' μ d x ∧ Same H H') ∧ (i = its.length → J.stop i H)
theorem walk_to {K : PySem.W.Frag} {J : It} {its : List D} {G1 : Hp} {μ1 : List Addr} {vs : List V} {P : Hp → Prop} (t : RDs K G1 μ1 its vs) (w : Walk J vs.length P (YAt vs)) (hP : ∀ G H, Same G1 G → Same G H → P H) : WalkD K J its G1 μ1 := by
  intro i R G μ Γ h σ H S gg mm
  have p := hP G H gg S.gh
  refine ⟨fun d hd => ?_, fun e => ?_⟩
  · obtain ⟨v, hv, rv⟩ := t.at hd
    have hi : i < vs.length := (List.getElem?_eq_some_iff.mp hv).1
    refine ⟨w.goes i H hi p, fun x H' y => ?_⟩
    obtain ⟨e1, e2⟩ := w.yields i H x H' hi p y
    subst e1
    rw [hv] at e2
    cases e2
    exact ⟨G, S, .refl, rv.mono gg mm, Same.refl _⟩
  · have e' : i = vs.length := by rw [e, t.len]
    subst e'
    exact w.stops H p
theorem walk_pairs {K : PySem.W.Frag} {J : It} {ds : List D} {G1 : Hp} {μ1 : List Addr} {vs : List V} {P : Hp → Prop} (t : RDs K G1 μ1 ds vs) (w : Walk J vs.length P (YPair (fun i => some (.int (i : Nat))) (fun i => vs[i]?))) (hP : ∀ G H, Same G1 G → Same G H → P H) :
    WalkD K J (ds.mapIdx fun i d => .tup [.int i, d]) G1 μ1 := by
  intro i R G μ Γ h σ H S gg mm
  have p := hP G H gg S.gh
  refine ⟨fun d hd => ?_, fun e => ?_⟩
  · rw [List.getElem?_mapIdx] at hd
    cases z : ds[i]? with
    | none => rw [z] at hd; cases hd
    | some d0 =>
      rw [z] at hd
      cases hd
      obtain ⟨v, hv, rv⟩ := t.at z
      have hi : i < vs.length := (List.getElem?_eq_some_iff.mp hv).1
      refine ⟨w.goes i H hi p, fun x H' y => ?_⟩
      obtain ⟨Tt, a, b, e1, e2, e3, e4, e5⟩ := w.yields i H x H' hi p y
      subst e1 e3
      have e4 : some (V.int (i : Nat)) = some a := e4
      cases e4
      have e5 : vs[i]? = some b := e5
      rw [hv] at e5
      cases e5
      obtain ⟨S1, X1, r1⟩ := new_tup (ds := [.int (i : Nat), d0]) (by show 2 ≤ 16777216; decide) (RDs.cons (d := .int (i : Nat)) rfl (RDs.cons (rv.mono gg mm) RDs.nil)) e2 S
      exact ⟨_, S1, X1, r1, Same.new e2⟩
  · have e' : i = vs.length := by rw [e, List.length_mapIdx, t.len]
    subst e'
    exact w.stops H p
theorem walk_ints {K : PySem.W.Frag} {lo : Int} {k : Nat} {G1 : Hp} {μ1 : List Addr} : WalkD K (Itr lo k) ((List.range k).map fun (i : Nat) => .int (lo + (i : Int))) G1 μ1 := by
  intro i R G μ Γ h σ H S gg mm
  refine ⟨fun d hd => ?_, fun e => ?_⟩
  · rw [List.getElem?_map] at hd
    cases z : (List.range k)[i]? with
    | none => rw [z] at hd; cases hd
    | some j =>
      rw [z] at hd
      cases hd
      obtain ⟨h1, h2⟩ := List.getElem?_eq_some_iff.mp z
      rw [List.getElem_range] at h2
      subst h2
      rw [List.length_range] at h1
      refine ⟨h1, fun x H' y => ?_⟩
      obtain ⟨e1, e2⟩ := y
      subst e1 e2
      exact ⟨G, S, .refl, rfl, Same.refl _⟩
  · have e' : i = k := by rw [e, List.length_map, List.length_range]
    subst e'
    exact Nat.le_refl _
theorem walk_text {K : PySem.W.Frag} {z : Str} {G1 : Hp} {μ1 : List Addr} : WalkD K (Its z) (z.cps.toList.map fun c => .str ⟨#[c]⟩) G1 μ1 := by
  intro i R G μ Γ h σ H S gg mm
  refine ⟨fun d hd => ?_, fun e => ?_⟩
  · rw [List.getElem?_map] at hd
    cases q : z.cps.toList[i]? with
    | none => rw [q] at hd; cases hd
    | some c =>
      rw [q] at hd
      cases hd
      have h1 : i < z.cps.size := by
        have := (List.getElem?_eq_some_iff.mp q).1
        simpa using this
      refine ⟨h1, fun x H' y => ?_⟩
      obtain ⟨e1, c', e2, e3⟩ := y
      subst e1 e3
      have : z.cps[i]? = some c := by simpa using q
      rw [this] at e2
      cases e2
      exact ⟨G, S, .refl, ⟨rfl, by show (1 : Nat) ≤ 16777216; decide⟩, Same.refl _⟩
  · have e' : i = z.cps.size := by rw [e]; simp
    subst e'
    exact Nat.le_refl _
end
end DC

set_option linter.all false
set_option Elab.async false
set_option maxRecDepth 100000
set_option maxHeartbeats 4000000
/-! DExp4: sources of walks, targets, comprehensions. -/
namespace DC
open PySem L2 PySem.Spec PyProof.Rows
section
variable {T : Tb} {ca : Nat → Addr} {cx : Ck} {n : Nat} {N : List Str} {W : WX} {sc : Scope} {X : Cx} {σ : L2.St} {H : Hp}
variable {l r m e tg : Expr} {p pp : Pos} {ea eb ec : List Slot → List Cell → Out D} {sa sb se : Bool}
def el1 (ea : List Slot → List Cell → Out D) : List Slot → List Cell → Out (List D) := fun Γ h => bnd (ea Γ h) fun x h => bnd (some (.ok [] h)) fun xs h => some (.ok (x :: xs) h)
theorem el1_go {R : Fr} {G : Hp} {μ : List Addr} {Γ : List Slot} {h : List Cell} {C : List V → Hp → Prop} (hs : se = true) (g : Go X.K ca W R Γ σ (ρL X.K) G μ H (el1 ea Γ h) C) : Go X.K ca W R Γ σ (ρE X.K se) G μ H (ea Γ h) (fun v H1 => C [v] H1) := by
  refine (Go.bind (ρ := ρE X.K se) g).mono fun v H1 ⟨x, h1, G1, μ1, S1, X1, r1, g1⟩ => ?_
  exact Go.val (b := [v]) g1 S1 (RDs.cons (RE.s r1 hs) RDs.nil)
/-- what is walked, by what its parts are -/
def SrcOk (X : Cx) (ca : Nat → Addr) (W : WX) (k : ItK) (tg iter : Expr) (el : List Slot → List Cell → Out (List D)) : Prop :=
  ∃ wi : TI, PI X tg iter wi ∧ ∀ (σ : L2.St) (H : Hp) (R : Fr) (G : Hp) (μ : List Addr) (Γ : List Slot) (h : List Cell) (C : It → Hp → Prop), Sim X.K R G μ Γ h σ H →
    Go X.K ca W R Γ σ (ρL X.K) G μ H (el Γ h) (fun vs H1 => ∃ (ds : List D) (h1 : List Cell) (G1 : Hp) (μ1 : List Addr) (its : List D), Sim X.K R G1 μ1 Γ h1 σ H1 ∧ RDs X.K G1 μ1 ds vs ∧ itemsOf k h1 ds = some its ∧ ∀ J, WalkD X.K J its G1 μ1 → C J H1) → wi σ H C
theorem src_seq (pa : PE X e (tI X.K ca W (ρE X.K se) ea)) (hs : se = true) : SrcOk X ca W .seq tg e (el1 ea) := by
  refine ⟨_, pi_seq pa, fun σ H R G μ Γ h C S g => ⟨R, G, μ, Γ, h, S, (el1_go hs g).mono fun v H1 q => ?_⟩⟩
  obtain ⟨ds, h1, G1, μ1, its, S1, t, hi, k⟩ := q
  match ds, t, hi with
  | [.tup as], t, hi =>
    cases hi
    obtain ⟨v', r', e', r1, _⟩ := t
    cases e'
    obtain ⟨a, vs, rfl, hq, _, t1⟩ := r1
    exact ⟨a, rfl, .inr ⟨⟨vs, Same.t S1.gh hq⟩, k _ (walk_to t1 walk_tup fun G H gg gh => Same.t (gg.trans gh) hq)⟩⟩
  | [.lst as], t, hi =>
    cases hi
    obtain ⟨v', r', e', r1, _⟩ := t
    cases e'
    obtain ⟨a, vs, rfl, hq, _, t1⟩ := r1
    exact ⟨a, rfl, .inl ⟨⟨vs, .of (S1.gh _ _ hq)⟩, k _ (walk_to t1 walk_list fun G H gg gh => .of (gh _ _ (gg _ _ hq)))⟩⟩
  | [.scr as], t, hi =>
    cases hi
    obtain ⟨v', r', e', r1, _⟩ := t
    cases e'
    obtain ⟨a, vs, rfl, hq, _, t1⟩ := r1
    exact ⟨a, rfl, .inl ⟨⟨vs, S1.gh.seq hq⟩, k _ (walk_to t1 walk_list fun G H gg gh => (gg.trans gh).seq hq)⟩⟩
  | [], t, hi => cases hi
  | [.non], t, hi => cases hi
  | [.bl _], t, hi => cases hi
  | [.int _], t, hi => cases hi
  | [.str _], t, hi => cases hi
  | [.dct _ _], t, hi => cases hi
  | [.ref _], t, hi => cases hi
  | _ :: _ :: _, t, hi => simp [itemsOf] at hi
theorem src_text (pa : PE X e (tI X.K ca W (ρE X.K se) ea)) (hs : se = true) : SrcOk X ca W .text tg e (el1 ea) := by
  refine ⟨_, pi_str pa, fun σ H R G μ Γ h C S g => ⟨R, G, μ, Γ, h, S, (el1_go hs g).mono fun v H1 q => ?_⟩⟩
  obtain ⟨ds, h1, G1, μ1, its, S1, t, hi, k⟩ := q
  match ds, t, hi with
  | [.str z], t, hi =>
    cases hi
    obtain ⟨v', r', e', r1, _⟩ := t
    cases e'
    exact ⟨z, r1.1, k _ walk_text⟩
  | [], t, hi => cases hi
  | [.non], t, hi => cases hi
  | [.bl _], t, hi => cases hi
  | [.int _], t, hi => cases hi
  | [.tup _], t, hi => cases hi
  | [.lst _], t, hi => cases hi
  | [.scr _], t, hi => cases hi
  | [.dct _ _], t, hi => cases hi
  | [.ref _], t, hi => cases hi
  | _ :: _ :: _, t, hi => simp [itemsOf] at hi
variable {el : List Slot → List Cell → Out (List D)}
theorem src_range1 (O : XOk T ca cx n N W sc X) (hg : glB sc ("range" : Str) = true) (pa : PA X [l] (tI X.K ca W (ρL X.K) el)) (hs : isStar l = false) : SrcOk X ca W .range1 tg (.Call (.Name ("range" : Str) pp) [l] [] p) el := by
  obtain ⟨h1, h2⟩ := gl_of O hg
  refine ⟨_, pi_range1 h1 (blt_of O (x := "range") (by decide)) pa (star_of hs [] X.env), fun σ H R G μ Γ h C S g => ⟨R, G, μ, Γ, h, S, g.mono fun vs H1 q => ?_⟩⟩
  obtain ⟨ds, h1, G1, μ1, its, S1, t, hi, k⟩ := q
  match ds, t, hi with
  | [.int i], t, hi =>
    obtain ⟨v', r', e', r1, r2⟩ := t
    subst e'
    cases (show r' = [] from r2)
    cases (show v' = .int i from r1)
    unfold itemsOf at hi
    simp only at hi
    split at hi
    · rename_i hz
      cases hi
      refine ⟨i, rfl, by omega, by omega, k _ ?_⟩
      have := walk_ints (K := X.K) (lo := 0) (k := i.toNat) (G1 := G1) (μ1 := μ1)
      simpa using this
    · cases hi
  | [], t, hi => cases hi
  | [.non], t, hi => cases hi
  | [.bl _], t, hi => cases hi
  | [.str _], t, hi => cases hi
  | [.tup _], t, hi => cases hi
  | [.lst _], t, hi => cases hi
  | [.scr _], t, hi => cases hi
  | [.dct _ _], t, hi => cases hi
  | [.ref _], t, hi => cases hi
  | _ :: _ :: _, t, hi => simp [itemsOf] at hi
theorem src_range2 (O : XOk T ca cx n N W sc X) (hg : glB sc ("range" : Str) = true) (pa : PA X [l, r] (tI X.K ca W (ρL X.K) el)) (hs : isStar l = false) (hs2 : isStar r = false) : SrcOk X ca W .range2 tg (.Call (.Name ("range" : Str) pp) [l, r] [] p) el := by
  obtain ⟨h1, h2⟩ := gl_of O hg
  refine ⟨_, pi_range2 h1 (blt_of O (x := "range") (by decide)) pa (by rw [star_of hs, star_of hs2]; rfl) (star_of hs2 [] X.env), fun σ H R G μ Γ h C S g => ⟨R, G, μ, Γ, h, S, g.mono fun vs H1 q => ?_⟩⟩
  obtain ⟨ds, h1, G1, μ1, its, S1, t, hi, k⟩ := q
  have hd : ∃ i j, ds = [.int i, .int j] := by
    match ds, hi with
    | [], hi => cases hi
    | [x], hi => simp [itemsOf] at hi
    | x :: y :: z :: r, hi => simp [itemsOf] at hi
    | [x, y], hi => cases x <;> cases y <;> first | exact ⟨_, _, rfl⟩ | cases hi
  obtain ⟨i, j, rfl⟩ := hd
  obtain ⟨v', r', e', r1, v2, r2, e2, r3, r4⟩ := t
  subst e' e2
  cases (show r2 = [] from r4)
  cases (show v' = .int i from r1)
  cases (show v2 = .int j from r3)
  unfold itemsOf at hi
  simp only at hi
  split at hi
  · rename_i hz
    cases hi
    exact ⟨i, j, rfl, ⟨by omega, by omega, by omega, by omega⟩, k _ walk_ints⟩
  · cases hi
theorem src_enum (O : XOk T ca cx n N W sc X) {elts : List Expr} {kk : Nat} {tpos : Pos} (hg : glB sc ("enumerate" : Str) = true) (pa : PA X [l] (tI X.K ca W (ρL X.K) el)) (hs : isStar l = false) : SrcOk X ca W .enum (.Tuple elts kk tpos) (.Call (.Name ("enumerate" : Str) pp) [l] [] p) el := by
  obtain ⟨h1, h2⟩ := gl_of O hg
  refine ⟨_, pi_enumA h1 (blt_of O (x := "enumerate") (by decide)) pa (star_of hs [] X.env), fun σ H R G μ Γ h C S g => ⟨R, G, μ, Γ, h, S, g.mono fun vs H1 q => ?_⟩⟩
  obtain ⟨ds, h1, G1, μ1, its, S1, t, hi, k⟩ := q
  match ds, t, hi with
  | [.tup as], t, hi =>
    cases hi
    obtain ⟨v', r', e', r1, r2⟩ := t
    subst e'
    cases (show r' = [] from r2)
    obtain ⟨a, vs, rfl, hq, _, t1⟩ := r1
    exact ⟨a, vs, rfl, .inr ⟨Same.t S1.gh hq, k _ (walk_pairs t1 walk_enumT fun G H gg gh => Same.t (gg.trans gh) hq)⟩⟩
  | [.lst as], t, hi =>
    cases hi
    obtain ⟨v', r', e', r1, r2⟩ := t
    subst e'
    cases (show r' = [] from r2)
    obtain ⟨a, vs, rfl, hq, _, t1⟩ := r1
    exact ⟨a, vs, rfl, .inl ⟨.of (S1.gh _ _ hq), k _ (walk_pairs t1 walk_enum fun G H gg gh => .of (gh _ _ (gg _ _ hq)))⟩⟩
  | [], t, hi => cases hi
  | [.non], t, hi => cases hi
  | [.bl _], t, hi => cases hi
  | [.int _], t, hi => cases hi
  | [.str _], t, hi => cases hi
  | [.scr _], t, hi => cases hi
  | [.dct _ _], t, hi => cases hi
  | [.ref _], t, hi => cases hi
  | _ :: _ :: _, t, hi => simp [itemsOf] at hi

/-! ### targets -/
/-- names, one behind the other -/
def gNames : List Nat → TGs
  | [] => gNil
  | i :: is => gCons (gName i) (gNames is)
/-- a target's reading -/
def tgG (K : PySem.W.Frag) : Tg → TG
  | .one i => gName i
  | .tup is => gTup K is.length (gNames is)
theorem wipe_get {σ : L2.St} : ∀ {l : List Nat} {j : Nat}, (wipe σ l)[j]? = if j ∈ l ∧ j < σ.length then some none else σ[j]?
  | [], j => by simp [wipe]
  | i :: l, j => by
    unfold wipe
    by_cases hij : i = j
    · subst hij
      by_cases hlt : i < σ.length
      · rw [List.getElem?_set_self (by rw [wipe_length]; exact hlt), if_pos ⟨List.mem_cons_self, hlt⟩]
      · rw [if_neg (fun z => hlt z.2), List.getElem?_eq_none (by rw [List.length_set, wipe_length]; omega), List.getElem?_eq_none (by omega)]
    · rw [List.getElem?_set_ne hij, wipe_get]
      have : (j ∈ l ∧ j < σ.length) ↔ (j ∈ i :: l ∧ j < σ.length) := by
        constructor
        · intro z
          exact ⟨List.mem_cons_of_mem _ z.1, z.2⟩
        · intro z
          rcases List.mem_cons.mp z.1 with e | e
          · exact absurd e.symm hij
          · exact ⟨e, z.2⟩
      by_cases hc : j ∈ l ∧ j < σ.length
      · rw [if_pos hc, if_pos (this.mp hc)]
      · rw [if_neg hc, if_neg (fun z => hc (this.mpr z))]
theorem wipe_set {σ : L2.St} {own : List Nat} {i : Nat} {x : Option V} (hi : i ∈ own) : wipe (σ.set i x) own = wipe σ own := by
  apply List.ext_getElem?
  intro j
  rw [wipe_get, wipe_get, List.length_set]
  by_cases hc : j ∈ own ∧ j < σ.length
  · rw [if_pos hc, if_pos hc]
  · rw [if_neg hc, if_neg hc]
    by_cases hij : i = j
    · subst hij
      have : ¬ i < σ.length := fun z => hc ⟨hi, z⟩
      rw [List.getElem?_eq_none (by rw [List.length_set]; omega), List.getElem?_eq_none (by omega)]
    · rw [List.getElem?_set_ne hij]
theorem pgs_names (O : XOk T ca cx n N W sc X) : ∀ {is : List Nat} {es : List Expr}, chkNames N sc is es = true → PGs X es (gNames is)
  | [], [], _ => pgs_nil
  | [], _ :: _, h => by simp [chkNames] at h
  | i :: is, [], h => by simp [chkNames] at h
  | i :: is, e :: es, h => by
    cases e <;> first | (simp [chkNames] at h; done) | skip
    rename_i x p
    unfold chkNames at h
    simp only [Bool.and_eq_true] at h
    obtain ⟨h1, h2, h3⟩ := tgt_loc O h.1
    exact pgs_cons (pg_name (by rw [O.hN]; exact O.nd) h1 h2 h3) (pgs_names O h.2)
theorem names_len : ∀ {is : List Nat} {es : List Expr}, chkNames N sc is es = true → es.length = is.length
  | [], [], _ => rfl
  | [], _ :: _, h => by simp [chkNames] at h
  | i :: is, [], h => by simp [chkNames] at h
  | i :: is, e :: es, h => by
    cases e <;> first | (simp [chkNames] at h; done) | skip
    unfold chkNames at h
    simp only [Bool.and_eq_true] at h
    simp [names_len h.2]
theorem names_each : ∀ {is : List Nat} {es : List Expr}, chkNames N sc is es = true → ∀ env : Env, (assignEach es env).length = es.length ∧ (assignEach es env).findIdx? (·.1) = none
  | [], [], _, env => ⟨rfl, rfl⟩
  | [], _ :: _, h, env => by simp [chkNames] at h
  | i :: is, [], h, env => by simp [chkNames] at h
  | i :: is, e :: es, h, env => by
    cases e <;> first | (simp [chkNames] at h; done) | skip
    unfold chkNames at h
    simp only [Bool.and_eq_true] at h
    obtain ⟨h1, h2⟩ := names_each h.2 env
    refine ⟨?_, ?_⟩
    · simp [assignEach, h1]
    · simp [assignEach, List.findIdx?_cons, h2]
theorem names_set {K : PySem.W.Frag} {R : Fr} {G : Hp} {μ : List Addr} {h : List Cell} : ∀ {is : List Nat} {ds : List D} {vs : List V} {Γ Γ' : List Slot} {σ : L2.St} {C : L2.St → Hp → Prop}, Sim K R G μ Γ h σ H → RDs K G μ ds vs → setAll is ds Γ = some Γ' →
    (∀ σ', Sim K R G μ Γ' h σ' H → (∀ own : List Nat, (is.all fun i => decide (i ∈ own)) = true → (∀ j, j ∉ own → σ'[j]? = σ[j]? ∧ Γ'[j]? = Γ[j]?) ∧ wipe σ' own = wipe σ own) → C σ' H) → gNames is vs σ H C
  | [], [], vs, Γ, Γ', σ, C, S, t, e, k => by
    cases e
    exact ⟨t, k σ S fun own _ => ⟨fun j _ => ⟨rfl, rfl⟩, rfl⟩⟩
  | [], _ :: _, vs, Γ, Γ', σ, C, S, t, e, k => by cases e
  | i :: is, [], vs, Γ, Γ', σ, C, S, t, e, k => by cases e
  | i :: is, d :: ds, vs, Γ, Γ', σ, C, S, t, e, k => by
    obtain ⟨v, r, ev, h1, h2⟩ := t
    refine ⟨v, r, ev, names_set (S.set h1) h2 e fun σ' S' ho => k σ' S' fun own hall => ?_⟩
    rw [List.all_cons, Bool.and_eq_true] at hall
    have hi : i ∈ own := of_decide_eq_true hall.1
    obtain ⟨k1, k2⟩ := ho own hall.2
    refine ⟨fun j hj => ?_, k2.trans (wipe_set hi)⟩
    have : i ≠ j := fun z => hj (z ▸ hi)
    obtain ⟨a1, a2⟩ := k1 j hj
    exact ⟨a1.trans (List.getElem?_set_ne this), a2.trans (List.getElem?_set_ne this)⟩
theorem setAll_len : ∀ {is : List Nat} {ds : List D} {Γ Γ' : List Slot}, setAll is ds Γ = some Γ' → ds.length = is.length
  | [], [], Γ, Γ', _ => rfl
  | [], _ :: _, Γ, Γ', e => by cases e
  | i :: is, [], Γ, Γ', e => by cases e
  | i :: is, d :: ds, Γ, Γ', e => by
    have : setAll is ds (Γ.set i (.val d)) = some Γ' := e
    simp [setAll_len this]
theorem tg_pg (O : XOk T ca cx n N W sc X) {t : Tg} {tg : Expr} (h : chkTg N sc t tg = true) : PG X tg (tgG X.K t) := by
  cases t with
  | one i =>
    cases tg <;> first | exact absurd h Bool.false_ne_true | skip
    rename_i x p
    obtain ⟨h1, h2, h3⟩ := tgt_loc O (show tgtB N sc i x = true from h)
    exact pg_name (by rw [O.hN]; exact O.nd) h1 h2 h3
  | tup is =>
    cases tg <;> first | exact absurd h Bool.false_ne_true | skip
    rename_i es kk p
    have h : chkNames N sc is es = true := h
    obtain ⟨h1, h2⟩ := names_each h X.env
    exact pg_tup O.calm (pgs_names O h) (by rw [h1, names_len h]) h2
/-- what a target stores; the slots that it does not name stay -/
theorem tg_go {K : PySem.W.Frag} {R : Fr} {G : Hp} {μ : List Addr} {Γ Γ' : List Slot} {h : List Cell} {d : D} {v : V} {C : L2.St → Hp → Prop} {t : Tg} (S : Sim K R G μ Γ h σ H) (r : RD K G μ d v) (e : setTg t d Γ = some Γ')
    (k : ∀ σ', Sim K R G μ Γ' h σ' H → (∀ own : List Nat, tgIn t own = true → (∀ j, j ∉ own → σ'[j]? = σ[j]? ∧ Γ'[j]? = Γ[j]?) ∧ wipe σ' own = wipe σ own) → C σ' H) : tgG K t v σ H C := by
  cases t with
  | one i =>
    cases e
    refine k _ (S.set r) fun own ho => ?_
    have hi : i ∈ own := of_decide_eq_true ho
    refine ⟨fun j hj => ?_, wipe_set hi⟩
    have : i ≠ j := fun z => hj (z ▸ hi)
    exact ⟨List.getElem?_set_ne this, List.getElem?_set_ne this⟩
  | tup is =>
    cases d <;> first | (cases e; done) | skip
    rename_i ds
    obtain ⟨a, vs, rfl, hq, hz, t⟩ := r
    have e' : setAll is ds Γ = some Γ' := e
    exact ⟨a, vs, rfl, Same.t S.gh hq, by rw [← t.len, setAll_len e'], names_set S t e' k⟩
end
end DC

set_option linter.all false
set_option Elab.async false
set_option maxRecDepth 100000
set_option maxHeartbeats 4000000
/-! DLc: list comprehensions. -/
namespace DC
open PySem L2 PySem.Spec PyProof.Rows
section
variable {T : Tb} {ca : Nat → Addr} {cx : Ck} {n : Nat} {N : List Str} {W : WX} {sc : Scope} {X : Cx} {σ : L2.St} {H : Hp}
theorem wipeS_ne {Γ : List Slot} : ∀ {l : List Nat} {j : Nat}, j ∉ l → (wipeS Γ l)[j]? = Γ[j]?
  | [], j, _ => rfl
  | i :: l, j, h => by
    have h1 : i ≠ j := fun z => h (z ▸ List.mem_cons_self)
    have h2 : j ∉ l := fun z => h (List.mem_cons_of_mem _ z)
    unfold wipeS
    rw [List.getElem?_set_ne h1, wipeS_ne h2]
theorem wipe_ne {σ : L2.St} : ∀ {l : List Nat} {j : Nat}, j ∉ l → (L2.wipe σ l)[j]? = σ[j]?
  | [], j, _ => rfl
  | i :: l, j, h => by
    have h1 : i ≠ j := fun z => h (z ▸ List.mem_cons_self)
    have h2 : j ∉ l := fun z => h (List.mem_cons_of_mem _ z)
    unfold L2.wipe
    rw [List.getElem?_set_ne h1, wipe_ne h2]
theorem wipe_wipe {σ : L2.St} {l : List Nat} : L2.wipe (L2.wipe σ l) l = L2.wipe σ l := by
  apply List.ext_getElem?
  intro j
  rw [wipe_get, wipe_length]
  by_cases hc : j ∈ l ∧ j < σ.length
  · rw [if_pos hc, wipe_get, if_pos hc]
  · rw [if_neg hc]
theorem wipeOk_not {Γ : List Slot} {own : List Nat} (h : wipeOk Γ own = true) {i : Nat} {c : Cell} (e : Γ[i]? = some (.own c)) : i ∉ own := by
  intro z
  unfold wipeOk at h
  rw [List.all_eq_true] at h
  have := h i z
  rw [e] at this
  cases this
/-- the outer state again, behind a block that left its owned slots -/
theorem Sim.outer {K : PySem.W.Frag} {R R' : Fr} {G G' : Hp} {μ μ' : List Addr} {Γ Γ' : List Slot} {h h' : List Cell} {σ σ' : L2.St} {H H' : Hp} (S : Sim K R G μ Γ h σ H) (S' : Sim K R' G' μ' Γ' h' σ' H') (hF : Same R.F R'.F) (h0 : R'.G0 = R.G0) (hm0 : R'.μ0 = R.μ0)
    (gg : Same G G') (mm : μ <+: μ') (hown : ∀ (i : Nat) (c : Cell), Γ[i]? = some (.own c) → Γ'[i]? = Γ[i]? ∧ σ'[i]? = σ[i]?) : Sim K R G' μ' Γ h' σ H' := by
  have S2 := S'.subF hF
  rw [h0, hm0] at S2
  refine ⟨S2.gh, S2.fh, S2.g0, S2.m0, S2.gf, S2.mf, S2.mg, S2.nd, S2.len, S2.cells, S.slen, fun i s e => ?_, S.dist⟩
  cases s with
  | no => trivial
  | val d =>
    obtain ⟨v, e1, r⟩ := S.slots i _ e
    exact ⟨v, e1, r.mono gg mm⟩
  | own c =>
    obtain ⟨e1, e2⟩ := hown i c e
    have q := S2.slots i _ (e1.trans e)
    rw [e2] at q
    exact q
variable {k : ItK} {tg : Expr} {iter : Expr} {ifs : List Expr} {elt : Expr} {scope : Scope} {own : List Nat} {t : Tg} {p : Pos} {el : List Slot → List Cell → Out (List D)} {ec ee : List Slot → List Cell → Out D} {st : Bool}
abbrev WF : WX := fun _ _ _ _ => False
/-- the tests' reading -/
def condT (K : PySem.W.Frag) (ca : Nat → Addr) (ifs : List Expr) (ec : List Slot → List Cell → Out D) : TT := match ifs with
  | [] => tYes
  | _ => tI K ca WF ρB (fun Γ h => toB (ec Γ h))
theorem cond_go {K : PySem.W.Frag} (h0 : ifs = [] → ∀ Γ h, ec Γ h = some (.ok (.bl true) h)) (σ : L2.St) (H : Hp) (R : Fr) (G : Hp) (μ : List Addr) (Γ : List Slot) (h : List Cell) (Q : Bool → Hp → Prop) (S : Sim K R G μ Γ h σ H) (g : Go K ca WF R Γ σ ρB G μ H (toB (ec Γ h)) Q) : condT K ca ifs ec σ H Q := by
  cases ifs with
  | nil =>
    rw [h0 rfl] at g
    exact Go.val (b := true) g S rfl
  | cons _ _ => exact ⟨R, G, μ, Γ, h, S, g⟩
abbrev lcF (t : Tg) (own : List Nat) (Γ : List Slot) (ec ee : List Slot → List Cell → Out D) : D → List Cell → Out (Option D) := fun d h => match setTg t d (wipeS Γ own) with
  | some Γ' => bnd (ec Γ' h) fun b h => match b with
    | .bl true => bnd (ee Γ' h) fun y h => some (.ok (some y) h)
    | .bl false => some (.ok none h)
    | _ => none
  | none => none
def optC (y : Option D) (ys : List D) : List D := match y with
  | some y => y :: ys
  | none => ys
theorem lc_turn {f : D → List Cell → Out (Option D)} {d : D} {ds : List D} {h : List Cell} {rest : List D} {hf : List Cell} (e : lcL f (d :: ds) h = some (.ok rest hf)) : ∃ y h1 rest', f d h = some (.ok y h1) ∧ lcL f ds h1 = some (.ok rest' hf) ∧ rest = optC y rest' := by
  unfold lcL at e
  cases z : f d h with
  | none => rw [z] at e; cases e
  | some r =>
    rw [z] at e
    cases r with
    | exc _ _ => cases e
    | ok y h1 =>
      have e : bnd (lcL f ds h1) (fun ys h2 => some (.ok (optC y ys) h2)) = some (.ok rest hf) := e
      cases z2 : lcL f ds h1 with
      | none => rw [z2] at e; cases e
      | some r =>
        rw [z2] at e
        cases r with
        | exc _ _ => cases e
        | ok rest' h2 =>
          have e : some (Res.ok (optC y rest') h2) = some (.ok rest hf) := e
          injection e with e
          injection e with e1 e2
          subst e2
          exact ⟨y, h1, rest', rfl, z2, e1.symm⟩
theorem lc_f {Γ : List Slot} {d : D} {h h1 : List Cell} {y : Option D} (e : lcF t own Γ ec ee d h = some (.ok y h1)) : ∃ Γ' b h2, setTg t d (wipeS Γ own) = some Γ' ∧ ec Γ' h = some (.ok (.bl b) h2) ∧ (if b = true then ∃ v, ee Γ' h2 = some (.ok v h1) ∧ y = some v else y = none ∧ h1 = h2) := by
  unfold lcF at e
  cases z : setTg t d (wipeS Γ own) with
  | none => rw [z] at e; cases e
  | some Γ' =>
    rw [z] at e
    simp only at e
    cases z2 : ec Γ' h with
    | none => rw [z2] at e; cases e
    | some r =>
      rw [z2] at e
      cases r with
      | exc _ _ => cases e
      | ok b h2 =>
        unfold bnd at e
        simp only at e
        cases b with
        | bl b =>
          cases b with
          | false =>
            simp only at e
            injection e with e
            injection e with e1 e2
            exact ⟨Γ', false, h2, rfl, z2, e1.symm, e2.symm⟩
          | true =>
            simp only at e
            cases z3 : ee Γ' h2 with
            | none => rw [z3] at e; cases e
            | some r =>
              rw [z3] at e
              cases r with
              | exc _ _ => cases e
              | ok v h3 =>
                simp only at e
                injection e with e
                injection e with e1 e2
                subst e2
                exact ⟨Γ', true, h2, rfl, z2, v, z3, e1.symm⟩
        | _ => cases e
/-- the state at a turn's begin -/
def LcP (K : PySem.W.Frag) (R : Fr) (Γ : List Slot) (σ : L2.St) (Da : Addr) (G1 : Hp) (μ1 : List Addr) (H0 : Hp) (f : D → List Cell → Out (Option D)) (its full : List D) (hf : List Cell) (i : Nat) (H : Hp) : Prop :=
  ∃ (G : Hp) (μ : List Addr) (h : List Cell) (acc : List V) (ys rest : List D), Sim K R G μ Γ h σ H ∧ Ext Γ σ G1 μ1 H0 G μ H ∧ H Da = some (.lst acc) ∧ RDs K G μ ys acc ∧ G Da = none ∧ Da ∉ μ ∧ lcL f (its.drop i) h = some (.ok rest hf) ∧ full = ys ++ rest
theorem lc_step {tt : TT} {R : Fr} {Γ : List Slot} {Da : Addr} {G1 : Hp} {μ1 : List Addr} {H0 : Hp} {its full : List D} {hf : List Cell} {J : It} {K : PySem.W.Frag}
    (htk : ∀ (σ : L2.St) (H : Hp) (R : Fr) (G : Hp) (μ : List Addr) (Γ : List Slot) (h : List Cell) (Q : Bool → Hp → Prop), Sim K R G μ Γ h σ H → Go K ca WF R Γ σ ρB G μ H (toB (ec Γ h)) Q → tt σ H Q)
    (hin : tgIn t own = true) (hs : st = true) (hw : wipeOk Γ own = true) (hR : R.F Da = none) (hfo : ∀ (i : Nat) (c : Cell), Γ[i]? = some (.own c) → σ[i]? ≠ some (some (.ref Da)))
    (hJ : WalkD K J its G1 μ1) (hfull : full.length ≤ maxLen) {i : Nat} {H : Hp} (hi : i < its.length) (hp : LcP K R Γ σ Da G1 μ1 H0 (lcF t own Γ ec ee) its full hf i H) :
    J.go i H ∧ ∀ x H', J.yld i H x H' → tgG K t x (wipe σ own) H' fun σ2 H2 => wipe σ2 own = wipe σ own ∧ tt σ2 H2 fun b H3 =>
      if b = true then tI K ca WF (ρE K st) ee σ2 H3 fun y H4 => ∃ acc, H4 Da = some (.lst acc) ∧ acc.length < sizeLine ∧ LcP K R Γ σ Da G1 μ1 H0 (lcF t own Γ ec ee) its full hf (i + 1) (upd H4 Da (.lst (acc ++ [y]))) else LcP K R Γ σ Da G1 μ1 H0 (lcF t own Γ ec ee) its full hf (i + 1) H3 := by
  obtain ⟨G, μ, h, acc, ys, rest, S, X0, hD, ry, gD, mD, el, ef⟩ := hp
  have Sa := S.addF hD gD mD hfo
  have S1 := Sa.wipe own
  obtain ⟨j1, _⟩ := hJ i _ _ _ _ _ _ _ S1 X0.gg X0.mm
  have hd : its[i]? = some its[i] := List.getElem?_eq_getElem hi
  obtain ⟨go, yl⟩ := j1 _ hd
  refine ⟨go, fun x H' y => ?_⟩
  obtain ⟨G', S2, X2, rx, sm⟩ := yl x H' y
  rw [List.drop_eq_getElem_cons hi] at el
  obtain ⟨yo, h1, rest', e1, e2, e3⟩ := lc_turn el
  obtain ⟨Γ', b, h2, f1, f2, f3⟩ := lc_f e1
  refine tg_go S2 rx f1 fun σ2 S3 ho => ?_
  obtain ⟨o1, o2⟩ := ho own hin
  refine ⟨o2.trans wipe_wipe, htk _ _ _ _ _ _ _ _ S3 ?_⟩
  unfold toB
  rw [f2]
  -- owned slots are the block's too
  have own1 : ∀ (i : Nat) (c : Cell), Γ[i]? = some (.own c) → (wipeS Γ own)[i]? = Γ[i]? ∧ (wipe σ own)[i]? = σ[i]? := fun i c e => ⟨wipeS_ne (wipeOk_not hw e), wipe_ne (wipeOk_not hw e)⟩
  have own2 : ∀ (i : Nat) (c : Cell), Γ[i]? = some (.own c) → Γ'[i]? = Γ[i]? ∧ σ2[i]? = σ[i]? := fun i c e => by
    obtain ⟨a1, a2⟩ := o1 i (wipeOk_not hw e)
    obtain ⟨b1, b2⟩ := own1 i c e
    exact ⟨a2.trans b1, a1.trans b2⟩
  have back : ∀ {G4 : Hp} {μ4 : List Addr} {h4 : List Cell} {H4 : Hp}, Sim K ⟨upd R.F Da (.lst acc), R.G0, R.μ0⟩ G4 μ4 Γ' h4 σ2 H4 → Ext Γ' σ2 G' μ H' G4 μ4 H4 → Sim K R G4 μ4 Γ h4 σ H4 ∧ Ext Γ σ G μ H G4 μ4 H4 ∧ H4 Da = some (.lst acc) ∧ G4 Da = none ∧ Da ∉ μ4 := fun {G4 μ4 h4 H4} S4 X4 => by
    have gg := X2.gg.trans X4.gg
    have mm := X4.mm
    refine ⟨Sim.outer S S4 (Same.new hR) rfl rfl gg mm own2, ⟨gg, mm, fun i c a q1 q2 => ?_⟩, S4.fh Da _ upd_same, ?_, fun z => ?_⟩
    · obtain ⟨a1, a2⟩ := own1 i c q1
      obtain ⟨b1, b2⟩ := own2 i c q1
      exact (X4.own i c a (b1.trans q1) (b2.trans q2)).trans (X2.own i c a (a1.trans q1) (a2.trans q2))
    · cases zz : G4 Da with
      | none => rfl
      | some u =>
        rcases S4.gf Da (by rw [zz]; simp) with y | y
        · exact absurd (S.g0.free gD) y
        · have y' : upd R.F Da (.lst acc) Da = none := y
          rw [upd_same] at y'
          cases y'
    · have y' : upd R.F Da (.lst acc) Da = none := S4.mf Da z
      rw [upd_same] at y'
      cases y'
  intro b' G3 μ3 H3 S4 X4 eb
  cases (show b = b' from eb)
  have lenD : its.drop (i + 1) = its.drop (i + 1) := rfl
  cases b with
  | false =>
    simp only [Bool.false_eq_true, if_false] at f3 ⊢
    obtain ⟨y1, y2⟩ := f3
    subst y1 y2
    have e3 : rest = rest' := e3
    obtain ⟨B1, B2, B3, B4, B5⟩ := back S4 X4
    exact ⟨G3, μ3, _, acc, ys, rest', B1, X0.trans B2, B3, ry.mono B2.gg B2.mm, B4, B5, e2, by rw [ef, e3]⟩
  | true =>
    simp only [if_true] at f3 ⊢
    obtain ⟨v, y1, y2⟩ := f3
    subst y2
    have e3 : rest = v :: rest' := e3
    refine ⟨_, G3, μ3, Γ', h2, S4, ?_⟩
    rw [y1]
    intro w G5 μ5 H5 S5 X5 rw5
    obtain ⟨B1, B2, B3, B4, B5⟩ := back S5 (X4.trans X5)
    have hl : acc.length < maxLen := by
      have := ry.len
      have := congrArg List.length ef
      rw [e3] at this
      simp at this
      omega
    obtain ⟨S6, X6⟩ := B1.over (o := .lst (acc ++ [w])) B4 hR B5 hfo
    refine ⟨acc, B3, by rw [sl_eq]; exact hl, G5, μ5, h1, acc ++ [w], ys ++ [v], rest', S6, (X0.trans B2).trans X6, upd_same, (ry.mono B2.gg B2.mm).snoc (RE.s rw5 hs), B4, B5, e2, ?_⟩
    rw [ef, e3]
    simp
theorem own_snd : ∀ {own : List Nat}, (ownOf N own).map (·.2) = own
  | [] => rfl
  | i :: own => by
    have := own_snd (own := own)
    unfold ownOf at this ⊢
    rw [List.map_cons, List.map_cons, this]
theorem blk_outer (O : XOk T ca cx n N W sc X) {l : List (Str × Nat)} (hb : blkC N sc scope l = true) : BlkOk N X.env.scope scope l :=
  let z := blkOk_by hb
  ⟨z.kind, z.uniq, z.ix, fun y hy e => O.hsc.cf y.1 (z.free y hy e), z.own⟩
theorem blk_ok (O : XOk T ca cx n N W sc X) (hb : blkC N sc scope (ownOf N own) = true) (s : Shared) (H : Hp) (C : Addr) (cl : List (Str × Addr)) (fp : List Addr) : XOk T ca cx n N WF scope (X.blk s H scope (compEnvC scope cl C X.env) fp) :=
  ⟨O.wd, O.hN, O.nd, .blk, (blkOk_by hb).kind, O.room, fun u s' ⟨_, _, _, _, _, _, _, _, _, _, _, _, _, _, _, _, w⟩ => w.elim, .never, O.calm, fun x hx => by
    unfold locB at hx
    split at hx
    · exact .inr ((ScOk.blk (cl := cl) (C := C) (env := X.env)).lcl x (by assumption))
    · rename_i e
      exact .inl (by show (scope.names.lookup x == some .cell) = true; rw [e]; rfl)
    · cases hx⟩
/-- what the comprehension's reading asks -/
theorem lc_go {wi : TI} (hsrc : ∀ (σ : L2.St) (H : Hp) (R : Fr) (G : Hp) (μ : List Addr) (Γ : List Slot) (h : List Cell) (C : It → Hp → Prop), Sim X.K R G μ Γ h σ H →
    Go X.K ca W R Γ σ (ρL X.K) G μ H (el Γ h) (fun vs H1 => ∃ (ds : List D) (h1 : List Cell) (G1 : Hp) (μ1 : List Addr) (its : List D), Sim X.K R G1 μ1 Γ h1 σ H1 ∧ RDs X.K G1 μ1 ds vs ∧ itemsOf k h1 ds = some its ∧ ∀ J, WalkD X.K J its G1 μ1 → C J H1) → wi σ H C)
    (h0 : ifs = [] → ∀ Γ h, ec Γ h = some (.ok (.bl true) h)) (hin : tgIn t own = true) (hs : st = true) {Q : VK}
    (q : tI X.K ca W (ρF X.K) (fun Γ h => bnd (el Γ h) fun ds h => match itemsOf k h ds, wipeOk Γ own with
      | some its, true => bnd (calmO (lcL (lcF t own Γ ec ee) its h)) fun ys h => if ys.length ≤ maxLen then some (.ok (.lst ys) h) else none
      | _, _ => none) σ H Q) : tLc wi (tgG X.K t) (condT X.K ca ifs ec) (tI X.K ca WF (ρE X.K st) ee) own σ H Q := by
  obtain ⟨R, G, μ, Γ, h, S, g⟩ := q
  refine hsrc σ H R G μ Γ h _ S ((Go.bind (ρ := ρL X.K) g).mono fun vs H1 ⟨ds, h1, G1, μ1, S1, X1, r1, g1⟩ => ?_)
  cases zi : itemsOf k h1 ds with
  | none => rw [zi] at g1; exact g1.elim
  | some its =>
    cases zw : wipeOk Γ own with
    | false => rw [zi, zw] at g1; exact g1.elim
    | true =>
      rw [zi, zw] at g1
      simp only at g1
      cases zl : lcL (lcF t own Γ ec ee) its h1 with
      | none => rw [zl] at g1; exact g1.elim
      | some r =>
        rw [zl] at g1
        cases r with
        | exc _ _ => exact g1.elim
        | ok full hf =>
          have g1 : Go X.K ca W R Γ σ (ρF X.K) G1 μ1 H1 (if full.length ≤ maxLen then some (.ok (.lst full) hf) else none) Q := g1
          by_cases hz : full.length ≤ maxLen
          · rw [if_pos hz] at g1
            refine ⟨ds, h1, G1, μ1, its, S1, r1, zi, fun J hJ Da hDa => ?_⟩
            obtain ⟨S2, X2⟩ := S1.lay (o := .lst []) hDa
            obtain ⟨f1, f2, f3, f4⟩ := fresh_own S1 hDa
            refine ⟨fun i m H => m = its.length - i ∧ i ≤ its.length ∧ LcP X.K R Γ σ Da G1 μ1 H1 (lcF t own Γ ec ee) its full hf i H, ⟨its.length, by simp, Nat.zero_le _, G1, μ1, h1, [], [], full, S2, X2, upd_same, RDs.nil, f1, f3, zl, rfl⟩, ?_⟩
            rintro i m H' ⟨rfl, hi, hp⟩
            by_cases hlt : i < its.length
            · obtain ⟨go, st⟩ := lc_step (tt := condT X.K ca ifs ec) (cond_go h0) hin hs zw f2 f4 hJ hz hlt hp
              exact .inr ⟨go, _, fun H2 p2 => ⟨its.length - (i + 1), by omega, rfl, hlt, p2⟩, st⟩
            · have ei : i = its.length := by omega
              obtain ⟨G5, μ5, h5, acc, ys, rest, S5, X5, hD, ry, gD, mD, el, ef⟩ := hp
              rw [ei, List.drop_length] at el
              have el : some (Res.ok ([] : List D) h5) = some (.ok rest hf) := el
              injection el with el
              injection el with e1 e2
              subst e1 e2
              rw [List.append_nil] at ef
              subst ef
              refine .inl ⟨(hJ i _ _ _ _ _ _ _ S5 X5.gg X5.mm).2 ei, g1 _ G5 μ5 H' S5 X5 ⟨Da, .lst full, rfl, rfl, ⟨acc, hD, hz, ry⟩, gD, f2, mD, f4⟩⟩
          · rw [if_neg hz] at g1
            exact g1.elim
theorem s_lcF (O : XOk T ca cx n N W sc X) (hsrc : SrcOk X ca W k tg iter el) (hb : blkC N sc scope (ownOf N own) = true) (hg : chkTg N scope t tg = true)
    (ht : ∀ (s : Shared) (H : Hp) (C : Addr) (cl : List (Str × Addr)) (fp : List Addr), PTs (X.blk s H scope (compEnvC scope cl C X.env) fp) ifs (condT X.K ca ifs ec))
    (he : ∀ (s : Shared) (H : Hp) (C : Addr) (cl : List (Str × Addr)) (fp : List Addr), PE (X.blk s H scope (compEnvC scope cl C X.env) fp) elt (tI X.K ca WF (ρE X.K st) ee)) (hfs : ∀ x, foldedSetIterable iter X.env x = pure x)
    (h0 : ifs = [] → ∀ Γ h, ec Γ h = some (.ok (.bl true) h)) (hin : tgIn t own = true) (hs : st = true) :
    PE X (.ListComp elt [⟨tg, iter, ifs, 0⟩] scope p) (tI X.K ca W (ρF X.K) (fun Γ h => bnd (el Γ h) fun ds h => match itemsOf k h ds, wipeOk Γ own with
      | some its, true => bnd (calmO (lcL (lcF t own Γ ec ee) its h)) fun ys h => if ys.length ≤ maxLen then some (.ok (.lst ys) h) else none
      | _, _ => none)) := by
  obtain ⟨wi, pi, sem⟩ := hsrc
  have hblk : BlkOk X.N X.env.scope scope (ownOf N own) := by
    rw [O.hN]
    exact blk_outer O hb
  refine (pe_lc (g := tgG X.K t) O.calm (by rw [O.hN]; exact O.nd) pi hblk (fun s H C cl fp => tg_pg (blk_ok O hb s H C cl fp) hg) ht he hfs).imp fun σ H Q q => ?_
  rw [own_snd]
  exact lc_go sem h0 hin hs q
/-- y = [..] on one line, y no cell -/
theorem s_lcSet (O : XOk T ca cx n N W sc X) (hsrc : SrcOk X ca W k tg iter el) (hb : blkC N sc scope (ownOf N own) = true) (hg : chkTg N scope t tg = true)
    (ht : ∀ (s : Shared) (H : Hp) (C : Addr) (cl : List (Str × Addr)) (fp : List Addr), PTs (X.blk s H scope (compEnvC scope cl C X.env) fp) ifs (condT X.K ca ifs ec))
    (he : ∀ (s : Shared) (H : Hp) (C : Addr) (cl : List (Str × Addr)) (fp : List Addr), PE (X.blk s H scope (compEnvC scope cl C X.env) fp) elt (tI X.K ca WF (ρE X.K st) ee)) (hfs : ∀ x, foldedSetIterable iter X.env x = pure x)
    (h0 : ifs = [] → ∀ Γ h, ec Γ h = some (.ok (.bl true) h)) (hin : tgIn t own = true) (hs : st = true) {i : Nat} {y : Str} {py spos : Pos} (hy : X.N[i]? = some y) (hyl : X.env.scope.names.lookup y = some .local)
    (hsw : swapsWith (.ListComp elt [⟨tg, iter, ifs, 0⟩] scope p) (some (.Name y py)) spos.line X.env = pure true) :
    PS X (.Assign [.Name y py] (.ListComp elt [⟨tg, iter, ifs, 0⟩] scope p) spos) (tAsg (tI X.K ca W (ρF X.K) (fun Γ h => bnd (el Γ h) fun ds h => match itemsOf k h ds, wipeOk Γ own with
      | some its, true => bnd (calmO (lcL (lcF t own Γ ec ee) its h)) fun ys h => if ys.length ≤ maxLen then some (.ok (.lst ys) h) else none
      | _, _ => none)) (gName i)) := by
  obtain ⟨wi, pi, sem⟩ := hsrc
  have hblk : BlkOk X.N X.env.scope scope (ownOf N own) := by
    rw [O.hN]
    exact blk_outer O hb
  refine ⟨fun pins s σ H D I q => (ps_setLc (g := tgG X.K t) O.calm (by rw [O.hN]; exact O.nd) hy hyl hsw pi hblk (fun s H C cl fp => tg_pg (blk_ok O hb s H C cl fp) hg) ht he hfs).run pins s σ H D I ?_⟩
  rw [own_snd]
  exact lc_go sem h0 hin hs q
end
end DC

set_option linter.all false
set_option Elab.async false
set_option maxRecDepth 100000
set_option maxHeartbeats 4000000
/-! DSnd: the checker is sound for expressions. -/
namespace DC
open PySem L2 PySem.Spec PyProof.Rows
def isBoolE : Expr → Bool
  | .BoolOp _ _ _ => true
  | _ => false
/-- what is shown of an expression -/
structure SE (ca : Nat → Addr) (W : WX) (X : Cx) (a : CE) (e : Expr) (ev : List Slot → List Cell → Out D) : Prop where
  pe : PE X e (tI X.K ca W (ρE X.K (strong a)) ev)
  pt : tstOk a = true → PT X e (tI X.K ca W ρB (fun Γ h => toB (ev Γ h)))
  pw : tstOk a = true → isBoolE e = true → PW X e (tI X.K ca W ρB (fun Γ h => toB (ev Γ h)))
  pf : fresh a = true → PE X e (tI X.K ca W (ρF X.K) ev)
section
variable {T : Tb} {ca : Nat → Addr} {cx : Ck} {n : Nat} {N : List Str} {W : WX} {sc : Scope} {X : Cx} {σ : L2.St} {H : Hp} {e : Expr}
variable {ev : List Slot → List Cell → Out D} {a : CE}
/-- no bool operation, no fresh thing -/
theorem SE.of (pe : PE X e (tI X.K ca W (ρE X.K (strong a)) ev)) (he : ∀ whole, isTrue e X.env whole = (do let v ← whole; standAt e.pos; holding [v] (truthy v))) (hb : isBoolE e = false) (hf : fresh a = false) : SE ca W X a e ev :=
  ⟨pe, fun _ => pt_of pe he, fun _ h => (by rw [hb] at h; cases h), fun h => (by rw [hf] at h; cases h)⟩
theorem SE.of2 (pe : PE X e (tI X.K ca W (ρE X.K (strong a)) ev)) (pt : PT X e (tI X.K ca W ρB (fun Γ h => toB (ev Γ h)))) (hb : isBoolE e = false) (hf : fresh a = false) : SE ca W X a e ev :=
  ⟨pe, fun _ => pt, fun _ h => (by rw [hb] at h; cases h), fun h => (by rw [hf] at h; cases h)⟩
theorem SE.ofF (pf : PE X e (tI X.K ca W (ρF X.K) ev)) (he : ∀ whole, isTrue e X.env whole = (do let v ← whole; standAt e.pos; holding [v] (truthy v))) (hb : isBoolE e = false) : SE ca W X a e ev :=
  have pe : PE X e (tI X.K ca W (ρE X.K (strong a)) ev) := pf.imp fun _ _ _ t => frz_of t
  ⟨pe, fun _ => pt_of pe he, fun _ h => (by rw [hb] at h; cases h), fun _ => pf⟩
theorem pe_absurd {ρ : Rel D V} (h : ∀ σ H Q, ¬ tI X.K ca W ρ ev σ H Q) : PE X e (tI X.K ca W ρ ev) := ⟨fun pins s σ H Q I t => (h σ H Q t).elim⟩
theorem s_v {i : Nat} {x : Str} {p : Pos} (O : XOk T ca cx n N W sc X) (h : slotB N sc i x = true) : PE X (.Name x p) (tI X.K ca W (ρE X.K true) (fun Γ h => match Γ[i]? with
    | some (.val d) => some (.ok d h)
    | _ => none)) := by
  obtain ⟨h1, h2, h3⟩ := slot_vis O h
  obtain ⟨d1, d2, d3⟩ := nm_dbg h3
  refine (pe_var h1 h2 d1 d2).imp fun σ H Q t => ?_
  obtain ⟨R, G, μ, Γ, hh, S, g⟩ := t
  dsimp only at g
  cases z : Γ[i]? with
  | none => rw [z] at g; exact g.elim
  | some s =>
    rw [z] at g
    cases s with
    | val d =>
      obtain ⟨v, e1, r⟩ := S.slots i _ z
      exact ⟨v, e1, Go.val g S (.of r)⟩
    | _ => exact g.elim
theorem s_pk {i : Nat} {x : Str} {p : Pos} (O : XOk T ca cx n N W sc X) (h : slotB N sc i x = true) : PE X (.Name x p) (tI X.K ca W (ρE X.K false) (fun Γ h => match Γ[i]? with
    | some (.own c) => some (.ok c.toD h)
    | _ => none)) := by
  obtain ⟨h1, h2, h3⟩ := slot_vis O h
  obtain ⟨d1, d2, d3⟩ := nm_dbg h3
  refine (pe_var h1 h2 d1 d2).imp fun σ H Q t => ?_
  obtain ⟨R, G, μ, Γ, hh, S, g⟩ := t
  dsimp only at g
  cases z : Γ[i]? with
  | none => rw [z] at g; exact g.elim
  | some s =>
    rw [z] at g
    cases s with
    | own c =>
      obtain ⟨a, e1, c1, _⟩ := S.slots i _ z
      exact ⟨.ref a, e1, Go.val g S (show RE X.K false Γ σ G μ H c.toD (.ref a) from .inr ⟨i, c, a, z, e1, rfl, rfl, c1⟩)⟩
    | _ => exact g.elim
theorem s_g {i : Nat} {x : Str} {p : Pos} (O : XOk T ca cx n N W sc X) (h : glB sc x = true) (hi : cx.gnm i = some x) : PE X (.Name x p) (tI X.K ca W (ρE X.K true) (fun _ h => liftO (T.glob i) h)) := by
  obtain ⟨h1, h2⟩ := gl_of O h
  obtain ⟨d1, d2, d3⟩ := nm_dbg h2
  obtain ⟨u, m1, m2⟩ := O.wd.globs i x hi
  cases z : T.glob i with
  | none => exact pe_absurd fun σ H Q ⟨R, G, μ, Γ, hh, S, g⟩ => g.elim
  | some d =>
    obtain ⟨v, r, rd⟩ := m2 d z
    exact (pe_glob h1 m1 r d1).imp fun σ H Q ⟨R, G, μ, Γ, hh, S, g⟩ => Go.val g S (.of (rd G μ))
theorem s_c {d : D} {k : Const} {kk : Nat} {p : Pos} (h : cD d k = true) : PE X (.Constant k kk p) (tI X.K ca W (ρE X.K true) (fun _ h => some (.ok d h))) := by
  cases d <;> cases k <;> first | (exact absurd h Bool.false_ne_true) | skip
  · exact pe_non.imp fun σ H Q t => val_go (K := X.K) (d := .non) (v := .non) (fun R G μ Γ h S => rfl) t
  · rename_i b b'
    have e : b = b' := by simpa [cD] using h
    subst e
    exact pe_bl.imp fun σ H Q t => val_go (K := X.K) (d := .bl b) (v := .bl b) (fun R G μ Γ h S => rfl) t
  · rename_i i j
    have e : i = j := of_decide_eq_true h
    subst e
    exact pe_int.imp fun σ H Q t => val_go (K := X.K) (d := .int i) (v := .int i) (fun R G μ Γ h S => rfl) t
  · rename_i x y
    have h : (decide (x = y) && decide (x.length ≤ maxLen)) = true := h
    simp only [Bool.and_eq_true, decide_eq_true_eq] at h
    obtain ⟨e, h2⟩ := h
    subst e
    exact pe_str.imp fun σ H Q t => val_go (K := X.K) (d := .str x) (v := .str x) (fun R G μ Γ h S => ⟨rfl, h2⟩) t
/-- the list's expressions, each shown -/
inductive AllSE (T : Tb) (n : Nat) (ca : Nat → Addr) (W : WX) (X : Cx) : List CE → List Expr → Prop where
  | nil : AllSE T n ca W X [] []
  | cons {a : CE} {as : List CE} {e : Expr} {es : List Expr} (hs : strong a = true) (se : SE ca W X a e (evalE T (callN T n) a)) (st : isStar e = false) (t : AllSE T n ca W X as es) : AllSE T n ca W X (a :: as) (e :: es)
theorem AllSE.pa : ∀ {as : List CE} {es : List Expr}, AllSE T n ca W X as es → PA X es (tI X.K ca W (ρL X.K) (evalEs T (callN T n) as))
  | [], _, .nil => pa_nil.imp fun _ _ _ t => nil_read t
  | a :: as, _, .cons hs se st t => (pa_cons se.pe t.pa (star_of st _ X.env)).imp fun _ _ _ q => args_read (a := a) (as := as) (f := fun _ => evalE T (callN T n) a) hs q
theorem AllSE.stars : ∀ {as : List CE} {es : List Expr}, AllSE T n ca W X as es → (starEach es X.env).any (·.1) = false
  | [], _, .nil => rfl
  | a :: as, _, .cons (es := es) hs se st t => by
    rw [star_of st, List.any_cons, t.stars]
    rfl
theorem AllSE.dp {pos : Pos} : ∀ {as : List CE} {es : List Expr} {ks : List Key} {keys : List (Option Expr)}, AllSE T n ca W X as es → keysC ks keys = true → as.length = ks.length → DP X ca W pos ks keys es (evalEs T (callN T n) as)
  | [], _, [], [], .nil, _, _ => dp_nil
  | [], _, [], _ :: _, .nil, h, _ => by simp [keysC] at h
  | [], _, _ :: _, _, .nil, _, h => by simp at h
  | a :: as, _, [], _, .cons _ _ _ _, _, h => by simp at h
  | a :: as, _, k :: ks, [], .cons _ _ _ _, h, _ => by simp [keysC] at h
  | a :: as, _, k :: ks, ke :: keys, .cons hs se st t, h, hl => by
    unfold keysC at h
    simp only [Bool.and_eq_true] at h
    exact dp_cons h.1 se.pe hs (t.dp h.2 (by simpa using hl))
theorem evals_len : ∀ {as : List CE} {Γ : List Slot} {h : List Cell} {ds : List D} {h' : List Cell}, evalEs T (callN T n) as Γ h = some (.ok ds h') → ds.length = as.length
  | [], Γ, h, ds, h', e => by
    have e : some (Res.ok ([] : List D) h) = some (.ok ds h') := e
    injection e with e
    injection e with e1 e2
    subst e1
    rfl
  | a :: as, Γ, h, ds, h', e => by
    rw [evalEs] at e
    cases z : evalE T (callN T n) a Γ h with
    | none => rw [z] at e; cases e
    | some r =>
      rw [z] at e
      cases r with
      | exc _ _ => cases e
      | ok d h1 =>
        unfold bnd at e
        simp only at e
        cases z2 : evalEs T (callN T n) as Γ h1 with
        | none => rw [z2] at e; cases e
        | some r =>
          rw [z2] at e
          cases r with
          | exc _ _ => cases e
          | ok ds' h2 =>
            simp only at e
            injection e with e
            injection e with e1 e2
            subst e1
            simp [evals_len z2]
theorem keys_len : ∀ {ks : List Key} {keys : List (Option Expr)}, keysC ks keys = true → keys.length = ks.length ∧ keys.all (·.isSome) = true
  | [], [], _ => ⟨rfl, rfl⟩
  | [], _ :: _, h => by simp [keysC] at h
  | _ :: _, [], h => by simp [keysC] at h
  | k :: ks, ke :: keys, h => by
    unfold keysC at h
    simp only [Bool.and_eq_true] at h
    obtain ⟨h1, h2⟩ := keys_len h.2
    have : ke.isSome = true := by
      cases ke with
      | none => exact absurd h.1 Bool.false_ne_true
      | some _ => rfl
    exact ⟨by simp [h1], by simp [this, h2]⟩
theorem AllSE.len : ∀ {as : List CE} {es : List Expr}, AllSE T n ca W X as es → es.length = as.length
  | [], _, .nil => rfl
  | a :: as, _, .cons _ _ _ t => by simp [t.len]
theorem snd_dct {ks : List Key} {as : List CE} {keys : List (Option Expr)} {vals : List Expr} {p : Pos} (A : AllSE T n ca W X as vals) (hk : keysC ks keys = true) (hnd : ks.Nodup) (h15 : ks.length ≤ 15) (hl : as.length = ks.length) :
    PE X (.Dict keys vals p) (tI X.K ca W (ρF X.K) (evalE T (callN T n) (.dct ks as))) := by
  cases keys with
  | nil =>
    cases ks with
    | cons _ _ => simp [keysC] at hk
    | nil =>
      cases A with
      | nil => exact s_dct0
      | cons _ _ _ _ => simp at hl
  | cons ke keys =>
    obtain ⟨l1, l2⟩ := keys_len hk
    exact s_dctF (A.dp hk hl) hnd h15 l1 (A.len.trans hl) l2 (fun Γ h ds h' e => (evals_len e).trans hl) (by simp)
theorem fold_of {iter : Expr} (h : isSetD iter = false) (x : Value) : foldedSetIterable iter X.env x = pure x := by
  cases iter <;> first | rfl | (exact absurd h (by decide)) | (cases h)
theorem snd_src (O : XOk T ca cx n N W sc X) {k : ItK} {srcs : List CE} {iter tg : Expr} (hA : ∀ es, chkEs cx N srcs sc es = true → AllSE T n ca W X srcs es) (h : chkIt (fun es => chkEs cx N srcs sc es) k sc iter tg = true) : SrcOk X ca W k tg iter (evalEs T (callN T n) srcs) := by
  cases k with
  | seq =>
    simp only [chkIt, Bool.and_eq_true] at h
    have A := hA _ h.1
    cases A with
    | cons hs se st t =>
      cases t
      exact src_seq se.pe hs
  | text =>
    simp only [chkIt, Bool.and_eq_true] at h
    have A := hA _ h.1
    cases A with
    | cons hs se st t =>
      cases t
      exact src_text se.pe hs
  | range1 =>
    cases iter <;> first | (simp only [chkIt] at h; exact absurd h Bool.false_ne_true) | skip
    rename_i f as kws p
    cases f <;> first | (simp only [chkIt] at h; exact absurd h Bool.false_ne_true) | skip
    rename_i x pp
    match as, kws, h with
    | [l], [], h =>
      simp only [chkIt, Bool.and_eq_true, decide_eq_true_eq] at h
      obtain ⟨⟨rfl, hg⟩, hl⟩ := h
      have A := hA _ hl
      have hst : isStar l = false := by
        cases A with
        | cons hs se st t => exact st
      exact src_range1 O hg A.pa hst
    | [], _, h => simp only [chkIt] at h; exact absurd h Bool.false_ne_true
    | _ :: _ :: _, _, h => simp only [chkIt] at h; exact absurd h Bool.false_ne_true
    | [_], _ :: _, h => simp only [chkIt] at h; exact absurd h Bool.false_ne_true
  | range2 =>
    cases iter <;> first | (simp only [chkIt] at h; exact absurd h Bool.false_ne_true) | skip
    rename_i f as kws p
    cases f <;> first | (simp only [chkIt] at h; exact absurd h Bool.false_ne_true) | skip
    rename_i x pp
    match as, kws, h with
    | [l, r], [], h =>
      simp only [chkIt, Bool.and_eq_true, decide_eq_true_eq] at h
      obtain ⟨⟨rfl, hg⟩, hl⟩ := h
      have A := hA _ hl
      have hst : isStar l = false ∧ isStar r = false := by
        cases A with
        | cons hs se st t =>
          cases t with
          | cons _ _ st2 _ => exact ⟨st, st2⟩
      exact src_range2 O hg A.pa hst.1 hst.2
    | [], _, h => simp only [chkIt] at h; exact absurd h Bool.false_ne_true
    | [_], _, h => simp only [chkIt] at h; exact absurd h Bool.false_ne_true
    | _ :: _ :: _ :: _, _, h => simp only [chkIt] at h; exact absurd h Bool.false_ne_true
    | [_, _], _ :: _, h => simp only [chkIt] at h; exact absurd h Bool.false_ne_true
  | enum =>
    cases iter <;> first | (simp only [chkIt] at h; exact absurd h Bool.false_ne_true) | skip
    rename_i f as kws p
    cases f <;> first | (simp only [chkIt] at h; exact absurd h Bool.false_ne_true) | skip
    rename_i x pp
    match as, kws, h with
    | [l], [], h =>
      simp only [chkIt, Bool.and_eq_true, decide_eq_true_eq] at h
      obtain ⟨⟨⟨ht, rfl⟩, hg⟩, hl⟩ := h
      have A := hA _ hl
      have hst : isStar l = false := by
        cases A with
        | cons hs se st t => exact st
      cases tg <;> first | (exact absurd ht Bool.false_ne_true) | skip
      exact src_enum O hg A.pa hst
    | [], _, h => simp only [chkIt] at h; exact absurd h Bool.false_ne_true
    | _ :: _ :: _, _, h => simp only [chkIt] at h; exact absurd h Bool.false_ne_true
    | [_], _ :: _, h => simp only [chkIt] at h; exact absurd h Bool.false_ne_true
theorem joinC_of {o : CE} {k : Const} (h : joinC o k = true) : ∃ x, o = .c (.str x) ∧ k = .str x ∧ x.length ≤ maxLen := by
  cases o <;> first | (exact absurd h Bool.false_ne_true) | skip
  rename_i d
  cases d <;> first | (exact absurd h Bool.false_ne_true) | skip
  rename_i x
  cases k <;> first | (exact absurd h Bool.false_ne_true) | skip
  rename_i y
  have h : (decide (x = y) && decide (x.length ≤ maxLen)) = true := h
  simp only [Bool.and_eq_true, decide_eq_true_eq] at h
  exact ⟨x, rfl, by rw [h.1], h.2⟩
theorem noC_of {lo : CE} (h : noC lo = true) : lo = .no := by
  cases lo <;> first | rfl | (exact absurd h Bool.false_ne_true)
theorem trueC_of {c : CE} (h : trueC c = true) : c = .c (.bl true) := by
  cases c <;> first | (exact absurd h Bool.false_ne_true) | skip
  rename_i d
  cases d <;> first | (exact absurd h Bool.false_ne_true) | skip
  rename_i b
  cases b
  · exact absurd h Bool.false_ne_true
  · rfl
/-- a bool operation's rest -/
theorem rest_pe {op : BoolOp} {y : Expr} {rest : List Expr} {p : Pos} {t : TE} (h : PE X (restOf op y rest p) t) : PE X (.BoolOp op (y :: rest) p) t := by
  cases rest with
  | nil => exact pe_one h
  | cons _ _ => exact h
end
end DC

set_option linter.all false
set_option Elab.async false
set_option maxRecDepth 100000
set_option maxHeartbeats 4000000
/-! DSnd2: the checker is sound for expressions: the recursion. -/
namespace DC
open PySem L2 PySem.Spec PyProof.Rows
def Snd (T : Tb) (ca : Nat → Addr) (cx : Ck) (n : Nat) (N : List Str) (a : CE) : Prop := ∀ (sc : Scope) (e : Expr) (W : WX) (X : Cx), XOk T ca cx n N W sc X → chkE cx N a sc e = true → SE ca W X a e (evalE T (callN T n) a)
def Snds (T : Tb) (ca : Nat → Addr) (cx : Ck) (n : Nat) (N : List Str) (as : List CE) : Prop := ∀ (sc : Scope) (es : List Expr) (W : WX) (X : Cx), XOk T ca cx n N W sc X → chkEs cx N as sc es = true → AllSE T n ca W X as es
section
variable {T : Tb} {ca : Nat → Addr} {cx : Ck} {n : Nat} {N : List Str} {a b c : CE} {as : List CE}
theorem snd_c (d : D) : Snd T ca cx n N (.c d) := by
  intro sc e W X O h
  unfold chkE at h
  split at h <;> first | (exact absurd h Bool.false_ne_true) | skip
  exact SE.of (s_c h) (fun _ => rfl) rfl rfl
theorem snd_v (i : Nat) : Snd T ca cx n N (.v i) := by
  intro sc e W X O h
  unfold chkE at h
  split at h <;> first | (exact absurd h Bool.false_ne_true) | skip
  exact SE.of (s_v O h) (fun _ => rfl) rfl rfl
theorem snd_pk (i : Nat) : Snd T ca cx n N (.pk i) := by
  intro sc e W X O h
  unfold chkE at h
  split at h <;> first | (exact absurd h Bool.false_ne_true) | skip
  exact SE.of (s_pk O h) (fun _ => rfl) rfl rfl
theorem snd_g (i : Nat) : Snd T ca cx n N (.g i) := by
  intro sc e W X O h
  unfold chkE at h
  split at h <;> first | (exact absurd h Bool.false_ne_true) | skip
  simp only [Bool.and_eq_true, decide_eq_true_eq] at h
  exact SE.of (s_g O h.1 h.2) (fun _ => rfl) rfl rfl
theorem snd_no : Snd T ca cx n N .no := by
  intro sc e W X O h
  unfold chkE at h
  exact absurd h Bool.false_ne_true
theorem snd_bin (o : Op) (ha : Snd T ca cx n N a) (hb : Snd T ca cx n N b) : Snd T ca cx n N (.bin o a b) := by
  intro sc e W X O h
  unfold chkE at h
  split at h <;> first | (exact absurd h Bool.false_ne_true) | skip
  simp only [Bool.and_eq_true, decide_eq_true_eq] at h
  obtain ⟨⟨rfl, h1⟩, h2⟩ := h
  exact SE.of (s_bin o (ha _ _ _ _ O h1).pe (hb _ _ _ _ O h2).pe) (fun _ => rfl) rfl rfl
theorem snd_neg (ha : Snd T ca cx n N a) : Snd T ca cx n N (.neg a) := by
  intro sc e W X O h
  unfold chkE at h
  split at h <;> first | (exact absurd h Bool.false_ne_true) | skip
  simp only [Bool.and_eq_true, decide_eq_true_eq] at h
  obtain ⟨rfl, h1⟩ := h
  exact SE.of (s_neg (ha _ _ _ _ O h1).pe) (fun _ => rfl) rfl rfl
theorem snd_cmp (o : Cm) (ha : Snd T ca cx n N a) (hb : Snd T ca cx n N b) : Snd T ca cx n N (.cmp o a b) := by
  intro sc e W X O h
  unfold chkE at h
  split at h <;> first | (exact absurd h Bool.false_ne_true) | skip
  simp only [Bool.and_eq_true, decide_eq_true_eq] at h
  obtain ⟨⟨⟨rfl, h1⟩, h2⟩, h3⟩ := h
  have z := fun se p => s_cmp (se := se) (p := p) O o (ha _ _ _ _ O h1).pe (hb _ _ _ _ O h2).pe (not_t h3)
  exact SE.of2 (z _ _).1 (z true _).2 rfl rfl
theorem snd_chain (o o' : Cm) (ha : Snd T ca cx n N a) (hb : Snd T ca cx n N b) (hc : Snd T ca cx n N c) : Snd T ca cx n N (.chain o o' a b c) := by
  intro sc e W X O h
  unfold chkE at h
  split at h <;> first | (exact absurd h Bool.false_ne_true) | skip
  simp only [Bool.and_eq_true, decide_eq_true_eq] at h
  obtain ⟨⟨⟨⟨⟨rfl, rfl⟩, h1⟩, h2⟩, h3⟩, h4⟩ := h
  have z := fun st p => s_chain (st := st) (p := p) O o o' (ha _ _ _ _ O h1).pe (hb _ _ _ _ O h2).pe (hc _ _ _ _ O h3).pe (not_t h4)
  exact SE.of2 (z _ _).1 (z true _).2 rfl rfl
theorem snd_and (ha : Snd T ca cx n N a) (hb : Snd T ca cx n N b) : Snd T ca cx n N (.and a b) := by
  intro sc e W X O h
  unfold chkE at h
  split at h <;> first | (exact absurd h Bool.false_ne_true) | skip
  rename_i op x y rest p
  simp only [Bool.and_eq_true, decide_eq_true_eq] at h
  obtain ⟨⟨rfl, h1⟩, h2⟩ := h
  have A := ha _ _ _ _ O h1
  have B := hb _ _ _ _ O h2
  have pw : tstOk (.and a b) = true → PW X (.BoolOp .And (x :: y :: rest) p) (tI X.K ca W ρB (fun Γ h => toB (evalE T (callN T n) (.and a b) Γ h))) := fun ht => by
    have ht : (tstOk a && tstOk b) = true := ht
    simp only [Bool.and_eq_true] at ht
    have wb : PW X (.BoolOp .And (y :: rest) p) (tI X.K ca W ρB (fun Γ h => toB (evalE T (callN T n) b Γ h))) := by
      cases rest with
      | nil => exact pw_and1 (B.pt ht.2)
      | cons z r => exact B.pw ht.2 rfl
    exact (pw_and (A.pt ht.1) wb).imp fun _ _ _ t => and_readT t
  refine ⟨(pe_and A.pe (rest_pe B.pe)).imp fun _ _ _ t => and_read t, fun ht => (pw ht).pt, fun ht _ => pw ht, fun h => absurd h Bool.false_ne_true⟩
theorem snd_or (ha : Snd T ca cx n N a) (hb : Snd T ca cx n N b) : Snd T ca cx n N (.or a b) := by
  intro sc e W X O h
  unfold chkE at h
  split at h <;> first | (exact absurd h Bool.false_ne_true) | skip
  rename_i op x y rest p
  simp only [Bool.and_eq_true, decide_eq_true_eq] at h
  obtain ⟨⟨rfl, h1⟩, h2⟩ := h
  have A := ha _ _ _ _ O h1
  have B := hb _ _ _ _ O h2
  have pw : tstOk (.or a b) = true → PW X (.BoolOp .Or (x :: y :: rest) p) (tI X.K ca W ρB (fun Γ h => toB (evalE T (callN T n) (.or a b) Γ h))) := fun ht => by
    have ht : (tstOk a && tstOk b) = true := ht
    simp only [Bool.and_eq_true] at ht
    have wb : PW X (.BoolOp .Or (y :: rest) p) (tI X.K ca W ρB (fun Γ h => toB (evalE T (callN T n) b Γ h))) := by
      cases rest with
      | nil => exact pw_or1 (B.pt ht.2)
      | cons z r => exact B.pw ht.2 rfl
    exact (pw_or (A.pt ht.1) wb).imp fun _ _ _ t => or_readT t
  refine ⟨(pe_or A.pe (rest_pe B.pe)).imp fun _ _ _ t => or_read t, fun ht => (pw ht).pt, fun ht _ => pw ht, fun h => absurd h Bool.false_ne_true⟩
theorem snd_not (ha : Snd T ca cx n N a) : Snd T ca cx n N (.not a) := by
  intro sc e W X O h
  unfold chkE at h
  split at h <;> first | (exact absurd h Bool.false_ne_true) | skip
  simp only [Bool.and_eq_true, decide_eq_true_eq] at h
  obtain ⟨rfl, h1⟩ := h
  have A := ha _ _ _ _ O h1
  exact ⟨(pe_not A.pe).imp fun _ _ _ t => not_read t, fun ht => (pt_not (A.pt ht)).imp fun _ _ _ t => not_readT t, fun _ h => absurd h Bool.false_ne_true, fun h => absurd h Bool.false_ne_true⟩
/-- weaker -/
theorem pe_weak {X : Cx} {W : WX} {e : Expr} {ev : List Slot → List Cell → Out D} {s t : Bool} (h : PE X e (tI X.K ca W (ρE X.K s) ev)) (hst : t = true → s = true) : PE X e (tI X.K ca W (ρE X.K t) ev) := by
  refine h.imp fun σ H Q ⟨R, G, μ, Γ, hh, S, g⟩ => ⟨R, G, μ, Γ, hh, S, ?_⟩
  match ev Γ hh, g with
  | none, g => exact g
  | some (.exc e h'), g => exact g
  | some (.ok d h'), g =>
    intro v G1 μ1 H1 S1 X1 r
    refine g v G1 μ1 H1 S1 X1 ?_
    have r : RE X.K s Γ σ G1 μ1 H1 d v := r
    show RE X.K t Γ σ G1 μ1 H1 d v
    cases t with
    | true => exact .of (r.s (hst rfl))
    | false => exact r.w
theorem snd_ite (hc : Snd T ca cx n N c) (ha : Snd T ca cx n N a) (hb : Snd T ca cx n N b) : Snd T ca cx n N (.ite c a b) := by
  intro sc e W X O h
  unfold chkE at h
  split at h <;> first | (exact absurd h Bool.false_ne_true) | skip
  simp only [Bool.and_eq_true, decide_eq_true_eq] at h
  obtain ⟨⟨⟨h0, h1⟩, h2⟩, h3⟩ := h
  have A := ha _ _ _ _ O h2
  have B := hb _ _ _ _ O h3
  have C := hc _ _ _ _ O h1
  have w1 : strong (.ite c a b) = true → strong a = true := fun z => by
    have z : (strong a && strong b) = true := z
    simp only [Bool.and_eq_true] at z
    exact z.1
  have w2 : strong (.ite c a b) = true → strong b = true := fun z => by
    have z : (strong a && strong b) = true := z
    simp only [Bool.and_eq_true] at z
    exact z.2
  exact ⟨(pe_ifExp (C.pt h0) (pe_weak A.pe w1) (pe_weak B.pe w2)).imp fun _ _ _ t => ite_read t, fun h => absurd h Bool.false_ne_true, fun h => absurd h Bool.false_ne_true, fun h => absurd h Bool.false_ne_true⟩
theorem snd_isi (ty : Ty) (ha : Snd T ca cx n N a) : Snd T ca cx n N (.isi ty a) := by
  intro sc e W X O h
  unfold chkE at h
  split at h <;> first | (exact absurd h Bool.false_ne_true) | skip
  simp only [Bool.and_eq_true, decide_eq_true_eq] at h
  obtain ⟨⟨⟨⟨⟨rfl, h1⟩, h2⟩, rfl⟩, h3⟩, h4⟩ := h
  exact SE.of (s_isi O ty h1 h2 (ha _ _ _ _ O h3).pe (not_t h4)) (fun _ => rfl) rfl rfl
theorem snd_b1 (f : B1) (ha : Snd T ca cx n N a) : Snd T ca cx n N (.b1 f a) := by
  intro sc e W X O h
  unfold chkE at h
  split at h <;> first | (exact absurd h Bool.false_ne_true) | skip
  simp only [Bool.and_eq_true, decide_eq_true_eq] at h
  obtain ⟨⟨⟨rfl, h1⟩, h3⟩, h4⟩ := h
  exact SE.of (s_b1 O f h1 (ha _ _ _ _ O h3).pe (not_t h4)) (fun _ => rfl) rfl rfl
theorem snd_b2 (f : B2) (ha : Snd T ca cx n N a) (hb : Snd T ca cx n N b) : Snd T ca cx n N (.b2 f a b) := by
  intro sc e W X O h
  unfold chkE at h
  split at h <;> first | (exact absurd h Bool.false_ne_true) | skip
  simp only [Bool.and_eq_true, decide_eq_true_eq] at h
  obtain ⟨⟨⟨⟨⟨rfl, h1⟩, h2⟩, h3⟩, h4⟩, h5⟩ := h
  exact SE.of (s_b2 O f h1 (ha _ _ _ _ O h2).pe (hb _ _ _ _ O h3).pe (not_t h4) (not_t h5)) (fun _ => rfl) rfl rfl
theorem snd_bm (f : Bm) (hb : Snd T ca cx n N b) : Snd T ca cx n N (.bm f a b) := by
  intro sc e W X O h
  unfold chkE at h
  split at h <;> first | (exact absurd h Bool.false_ne_true) | skip
  simp only [Bool.and_eq_true, decide_eq_true_eq] at h
  cases f
  obtain ⟨⟨⟨⟨⟨_, rfl⟩, h1⟩, h2⟩, h3⟩, h4⟩ := h
  obtain ⟨x, rfl, rfl, hx⟩ := joinC_of h1
  exact SE.of (s_join hx (hb _ _ _ _ O h2).pe (not_t h3) h4) (fun _ => rfl) rfl rfl
theorem snd_call (f : Nat) (ha : Snds T ca cx n N as) : Snd T ca cx n N (.call f as) := by
  intro sc e W X O h
  unfold chkE at h
  split at h <;> first | (exact absurd h Bool.false_ne_true) | skip
  · rename_i x _ l ls _
    simp only [Bool.and_eq_true, decide_eq_true_eq] at h
    obtain ⟨⟨h1, h2⟩, h3⟩ := h
    have A := ha _ _ _ _ O h3
    have hst : isStar l = false ∧ (starEach ls X.env).any (·.1) = false := by
      cases A with
      | cons hs se st t => exact ⟨st, t.stars⟩
    exact SE.of (s_call O h1 h2 A.pa hst.1 hst.2) (fun _ => rfl) rfl rfl
  · simp only [Bool.and_eq_true, decide_eq_true_eq] at h
    obtain ⟨⟨h1, h2⟩, h3⟩ := h
    have A := ha _ _ _ _ O h3
    cases A
    exact SE.of (s_call0 O h1 h2) (fun _ => rfl) rfl rfl
theorem snd_ix (ha : Snd T ca cx n N a) (hb : Snd T ca cx n N b) : Snd T ca cx n N (.ix a b) := by
  intro sc e W X O h
  unfold chkE at h
  split at h <;> first | (exact absurd h Bool.false_ne_true) | skip
  simp only [Bool.and_eq_true] at h
  obtain ⟨⟨h1, h2⟩, h3⟩ := h
  exact SE.of (s_ix O (ha _ _ _ _ O h1).pe (hb _ _ _ _ O h2).pe (not_t h3)) (fun _ => rfl) rfl rfl
theorem bd_of {W : WX} {sc : Scope} {X : Cx} (O : XOk T ca cx n N W sc X) (ha : Snd T ca cx n N a) {x : Option Expr} (h : (match x with
    | none => noC a
    | some x => chkE cx N a sc x) = true) : BdOk X ca W (isNo a) x (evalE T (callN T n) a) := by
  cases x with
  | none =>
    have := noC_of h
    subst this
    exact ⟨rfl, fun _ _ => rfl⟩
  | some x =>
    have h : chkE cx N a sc x = true := h
    refine ⟨?_, _, (ha _ _ _ _ O h).pe⟩
    cases a <;> first | rfl | (unfold chkE at h; exact absurd h Bool.false_ne_true)
theorem snd_sl {lo hi : CE} (ha : Snd T ca cx n N a) (hb : Snd T ca cx n N lo) (hc : Snd T ca cx n N hi) : Snd T ca cx n N (.sl a lo hi) := by
  intro sc e W X O h
  unfold chkE at h
  split at h <;> first | (exact absurd h Bool.false_ne_true) | skip
  simp only [Bool.and_eq_true] at h
  obtain ⟨⟨h1, h2⟩, h3⟩ := h
  exact SE.of (s_sl (ha _ _ _ _ O h1).pe (bd_of O hb h2) (bd_of O hc h3)) (fun _ => rfl) rfl rfl
theorem snd_tup (ha : Snds T ca cx n N as) : Snd T ca cx n N (.tup as) := by
  intro sc e W X O h
  unfold chkE at h
  split at h <;> first | (exact absurd h Bool.false_ne_true) | skip
  exact SE.of (s_tup (ha _ _ _ _ O h).pa) (fun _ => rfl) rfl rfl
theorem snd_lst (ha : Snds T ca cx n N as) : Snd T ca cx n N (.lst as) := by
  intro sc e W X O h
  unfold chkE at h
  split at h <;> first | (exact absurd h Bool.false_ne_true) | skip
  exact SE.ofF (s_lstF (ha _ _ _ _ O h).pa) (fun _ => rfl) rfl
theorem snd_dictC (ks : List Key) (ha : Snds T ca cx n N as) : Snd T ca cx n N (.dct ks as) := by
  intro sc e W X O h
  unfold chkE at h
  split at h <;> first | (exact absurd h Bool.false_ne_true) | skip
  simp only [Bool.and_eq_true, decide_eq_true_eq] at h
  obtain ⟨⟨⟨⟨h1, h2⟩, h3⟩, h4⟩, h5⟩ := h
  exact SE.ofF (snd_dct (ha _ _ _ _ O h4) h1 h2 h3 h5) (fun _ => rfl) rfl
theorem snd_new (ha : Snd T ca cx n N a) : Snd T ca cx n N (.new a) := by
  intro sc e W X O h
  unfold chkE at h
  simp only [Bool.and_eq_true] at h
  obtain ⟨h1, h2⟩ := h
  have A := ha _ _ _ _ O h2
  have pe : PE X e (tI X.K ca W (ρE X.K (strong (.new a))) (evalE T (callN T n) (.new a))) := (A.pf h1).imp fun _ _ _ t => new_of t
  cases a <;> first | (exact absurd h1 Bool.false_ne_true) | skip
  all_goals
    unfold chkE at h2
    split at h2 <;> first | (exact absurd h2 Bool.false_ne_true) | skip
    exact SE.of pe (fun _ => rfl) rfl rfl
/-- what a comprehension's text is asked -/
theorem lc_parts {W : WX} {sc : Scope} {X : Cx} (O : XOk T ca cx n N W sc X) {k : ItK} {srcs : List CE} {t : Tg} {own : List Nat} {cond elt : CE} (hs : Snds T ca cx n N srcs) (hc : Snd T ca cx n N cond) (he : Snd T ca cx n N elt) {el tg iter : Expr} {ifs : List Expr} {z : Int} {scope : Scope} {p : Pos}
    (h : chkE cx N (.lc k srcs t own cond elt) sc (.ListComp el [⟨tg, iter, ifs, z⟩] scope p) = true) : z = 0 ∧ SrcOk X ca W k tg iter (evalEs T (callN T n) srcs) ∧ blkC N sc scope (ownOf N own) = true ∧ chkTg N scope t tg = true ∧
      (∀ (s : Shared) (H : Hp) (C : Addr) (cl : List (Str × Addr)) (fp : List Addr), PTs (X.blk s H scope (compEnvC scope cl C X.env) fp) ifs (condT X.K ca ifs (evalE T (callN T n) cond))) ∧
      (∀ (s : Shared) (H : Hp) (C : Addr) (cl : List (Str × Addr)) (fp : List Addr), PE (X.blk s H scope (compEnvC scope cl C X.env) fp) el (tI X.K ca WF (ρE X.K (strong elt)) (evalE T (callN T n) elt))) ∧ (∀ x, foldedSetIterable iter X.env x = pure x) ∧
      (ifs = [] → ∀ Γ h, evalE T (callN T n) cond Γ h = some (.ok (.bl true) h)) ∧ tgIn t own = true ∧ strong elt = true := by
  unfold chkE at h
  simp only [Bool.and_eq_true, decide_eq_true_eq] at h
  obtain ⟨⟨⟨⟨⟨⟨⟨⟨⟨h1, h2⟩, h3⟩, h4⟩, h5⟩, h6⟩, h7⟩, h8⟩, h9⟩, h10⟩ := h
  refine ⟨h1, snd_src O (fun es q => hs _ _ _ _ O q) h4, h2, h5, fun s H C cl fp => ?_, fun s H C cl fp => (he _ _ _ _ (blk_ok O h2 s H C cl fp) h8).pe, fold_of (not_t h10), fun e => ?_, h3, h9⟩
  · cases ifs with
    | nil => exact pts_nil
    | cons c r =>
      cases r with
      | cons _ _ => exact absurd h7 Bool.false_ne_true
      | nil => exact pts_one ((hc _ _ _ _ (blk_ok O h2 s H C cl fp) h7).pt h6)
  · subst e
    have := trueC_of h7
    subst this
    exact fun _ _ => rfl
theorem snd_lc (k : ItK) {srcs : List CE} (t : Tg) (own : List Nat) {cond elt : CE} (hs : Snds T ca cx n N srcs) (hc : Snd T ca cx n N cond) (he : Snd T ca cx n N elt) : Snd T ca cx n N (.lc k srcs t own cond elt) := by
  intro sc e W X O h
  have h' := h
  unfold chkE at h
  split at h <;> first | (exact absurd h Bool.false_ne_true) | skip
  clear h
  obtain ⟨rfl, h1, h2, h3, h4, h5, h6, h7, h8, h9⟩ := lc_parts O hs hc he h'
  exact SE.ofF (s_lcF O h1 h2 h3 h4 h5 h6 h7 h8 h9) (fun _ => rfl) rfl
theorem snds_nil : Snds T ca cx n N [] := by
  intro sc es W X O h
  unfold chkEs at h
  cases es with
  | nil => exact .nil
  | cons _ _ => exact absurd h Bool.false_ne_true
theorem snds_cons (ha : Snd T ca cx n N a) (has : Snds T ca cx n N as) : Snds T ca cx n N (a :: as) := by
  intro sc es W X O h
  unfold chkEs at h
  cases es with
  | nil => exact absurd h Bool.false_ne_true
  | cons e es =>
    simp only [Bool.and_eq_true] at h
    obtain ⟨⟨⟨h1, h2⟩, h3⟩, h4⟩ := h
    exact .cons h1 (ha _ _ _ _ O h2) (not_t h3) (has _ _ _ _ O h4)
mutual
theorem snd : ∀ a : CE, Snd T ca cx n N a
  | .c d => snd_c d
  | .v i => snd_v i
  | .pk i => snd_pk i
  | .g i => snd_g i
  | .no => snd_no
  | .bin o a b => snd_bin o (snd a) (snd b)
  | .neg a => snd_neg (snd a)
  | .cmp o a b => snd_cmp o (snd a) (snd b)
  | .chain o o' a b c => snd_chain o o' (snd a) (snd b) (snd c)
  | .and a b => snd_and (snd a) (snd b)
  | .or a b => snd_or (snd a) (snd b)
  | .not a => snd_not (snd a)
  | .ite c a b => snd_ite (snd c) (snd a) (snd b)
  | .isi t a => snd_isi t (snd a)
  | .b1 f a => snd_b1 f (snd a)
  | .b2 f a b => snd_b2 f (snd a) (snd b)
  | .bm f a b => snd_bm f (snd b)
  | .call f as => snd_call f (snds as)
  | .ix a b => snd_ix (snd a) (snd b)
  | .sl a b c => snd_sl (snd a) (snd b) (snd c)
  | .tup as => snd_tup (snds as)
  | .lst as => snd_lst (snds as)
  | .dct ks as => snd_dictC ks (snds as)
  | .lc k srcs t own cond elt => snd_lc k t own (snds srcs) (snd cond) (snd elt)
  | .new a => snd_new (snd a)
theorem snds : ∀ as : List CE, Snds T ca cx n N as
  | [] => snds_nil
  | a :: as => snds_cons (snd a) (snds as)
end
end
end DC

set_option linter.all false
set_option Elab.async false
set_option maxRecDepth 100000
set_option maxHeartbeats 4000000
/-! DStm: statements: the checker, what a core statement wants (GoS, tS). -/
namespace DC
open PySem L2 PySem.Spec PyProof.Rows
def noComp : Expr → Bool
  | .ListComp _ _ _ _ => false
  | .SetComp _ _ _ _ => false
  | .DictComp _ _ _ _ _ => false
  | _ => true
def swB (sc : Scope) (x : Str) (p : Pos) (e : Expr) : Bool := match e with
  | .ListComp _ _ scope q => decide (sc.names.lookup x = some .local) && (p.line == q.line) && !(scope.names.any fun (n, k) => n == x && (k == .local || k == .cell))
  | e => noComp e
mutual
def chkS (cx : Ck) (N : List Str) (sc : Scope) : CS → Stmt → Bool
  | .asg i a, st => match st with
    | .Assign [.Name x p'] e _ => tgtB N sc i x && strong a && chkE cx N a sc e && swB sc x p' e
    | _ => false
  | .own i a, st => match st with
    | .Assign [.Name x p'] e _ => tgtB N sc i x && fresh a && chkE cx N a sc e && swB sc x p' e
    | _ => false
  | .frz _, _ => false
  | .utup _ _, _ => false
  | .stIx o i a, st => match st with
    | .Assign [.Subscript oe ie _] e _ => strong a && chkE cx N a sc e && noComp e && chkE cx N o sc oe && chkE cx N i sc ie && !isSlice ie
    | _ => false
  | .aug i a, st => match st with
    | .AugAssign (.Name x _) op e _ => tgtB N sc i x && decide (op = .Add) && chkE cx N a sc e
    | _ => false
  | .app i a, st => match st with
    | .Expr (.Call (.Attribute (.Name x _) m ap) [l] [] cp) _ => slotB N sc i x && decide (m = ("append" : Str)) && strong a && chkE cx N a sc l && !isStar l && (ap.endLine == cp.line)
    | _ => false
  | .ex a, st => match st with
    | .Expr e _ => chkE cx N a sc e && noComp e
    | _ => false
  | .ret a, st => match st with
    | .Return (some e) _ => strong a && chkE cx N a sc e
    | _ => false
  | .retN, st => match st with
    | .Return none _ => true
    | _ => false
  | .pass, st => match st with
    | .Pass _ => true
    | _ => false
  | .ite t a b, st => match st with
    | .If c x y _ => tstOk t && chkE cx N t sc c && chkSs cx N sc a x && chkSs cx N sc b y
    | _ => false
  | .for_ k srcs tg body, st => match st with
    | .For tg' iter b [] _ => chkIt (fun es => chkEs cx N srcs sc es) k sc iter tg' && chkTg N sc tg tg' && chkSs cx N sc body b && !isSetD iter
    | _ => false
termination_by structural s => s
def chkSs (cx : Ck) (N : List Str) (sc : Scope) : List CS → List Stmt → Bool
  | [], sts => match sts with
    | [] => true
    | _ => false
  | s :: ss, sts => match s with
    | .frz _ => chkSs cx N sc ss sts
    | s' => match sts with
      | st :: sts => chkS cx N sc s st && chkSs cx N sc ss sts
      | [] => false
termination_by structural ss => ss
end
def GoS (K : PySem.W.Frag) (ca : Nat → Addr) (W : WX) (R : Fr) (G : Hp) (μ : List Addr) (r : OutS) (D : Ends) : Prop :=
  match r with
  | none => False
  | some (.nx Γ h) => ∀ σ G' μ' H, Sim K R G' μ' Γ h σ H → Same G G' → μ <+: μ' → D.nx σ H
  | some (.brk Γ h) => ∀ σ G' μ' H, Sim K R G' μ' Γ h σ H → Same G G' → μ <+: μ' → D.bk σ H
  | some (.cont Γ h) => ∀ σ G' μ' H, Sim K R G' μ' Γ h σ H → Same G G' → μ <+: μ' → D.ct σ H
  | some (.ret d h) => ∀ v G' μ' H, Sim K R G' μ' [] h [] H → Same G G' → μ <+: μ' → RD K G' μ' d v → D.rt v H
  | some (.exc e Γ h) => ∀ cls dx σ G' μ' H, Sim K R G' μ' Γ h σ H → ExcAt ca e cls dx → W cls dx σ H
def tS (K : PySem.W.Frag) (ca : Nat → Addr) (W : WX) (ex : List Slot → List Cell → OutS) : TS := fun D σ H =>
  ∃ (R : Fr) (G : Hp) (μ : List Addr) (Γ : List Slot) (h : List Cell), Sim K R G μ Γ h σ H ∧ GoS K ca W R G μ (ex Γ h) D
section
variable {K : PySem.W.Frag} {ca : Nat → Addr} {W : WX} {R : Fr} {G G1 : Hp} {μ μ1 : List Addr} {Γ : List Slot} {h : List Cell} {σ : L2.St} {H : Hp} {D : Ends}
theorem GoS.shift {r : OutS} (g : GoS K ca W R G μ r D) (e : Same G G1) (m : μ <+: μ1) : GoS K ca W R G1 μ1 r D := by
  match r, g with
  | none, g => exact g
  | some (.nx Γ h), g => exact fun σ G' μ' H S e' m' => g σ G' μ' H S (e.trans e') (m.trans m')
  | some (.brk Γ h), g => exact fun σ G' μ' H S e' m' => g σ G' μ' H S (e.trans e') (m.trans m')
  | some (.cont Γ h), g => exact fun σ G' μ' H S e' m' => g σ G' μ' H S (e.trans e') (m.trans m')
  | some (.ret d h), g => exact fun v G' μ' H S e' m' => g v G' μ' H S (e.trans e') (m.trans m')
  | some (.exc e Γ h), g => exact g
theorem GoS.bnd {α β : Type} {ρ : Rel α β} {m : Out α} {f : α → List Cell → OutS} (g : GoS K ca W R G μ (bndS Γ m f) D) :
    Go K ca W R Γ σ ρ G μ H m (fun b H1 => ∃ (a : α) (h1 : List Cell) (G1 : Hp) (μ1 : List Addr), Sim K R G1 μ1 Γ h1 σ H1 ∧ Ext Γ σ G μ H G1 μ1 H1 ∧ ρ R Γ σ G1 μ1 H1 a b ∧ GoS K ca W R G1 μ1 (f a h1) D) := by
  match m, g with
  | none, g => exact g
  | some (.ok a h'), g => exact fun b G' μ' H' S X e => ⟨a, h', G', μ', S, X, e, GoS.shift g X.gg X.mm⟩
  | some (.exc e h'), g => exact fun cls dx G' μ' H' S x => g cls dx σ G' μ' H' S x
theorem GoS.then {m : OutS} {f : List Slot → List Cell → OutS} (g : GoS K ca W R G μ (thenS m f) D) : GoS K ca W R G μ m { D with nx := tS K ca W f D } := by
  match m, g with
  | none, g => exact g
  | some (.nx Γ h), g => exact fun σ G' μ' H S e m => ⟨R, G', μ', Γ, h, S, GoS.shift g e m⟩
  | some (.brk Γ h), g => exact g
  | some (.cont Γ h), g => exact g
  | some (.ret d h), g => exact g
  | some (.exc e Γ h), g => exact g
theorem Sim.drop (S : Sim K R G μ Γ h σ H) : Sim K R G μ [] h [] H :=
  ⟨S.gh, S.fh, S.g0, S.m0, S.gf, S.mf, S.mg, S.nd, S.len, S.cells, rfl, fun i s e => by simp at e, fun i j a c c' e _ _ _ => by simp at e⟩
/-- an owned thing that is no longer changed -/
theorem Sim.frzOwn (S : Sim K R G μ Γ h σ H) {i : Nat} {c : Cell} (e : Γ[i]? = some (.own c)) : ∃ G', Sim K R G' μ (Γ.set i (.val c.toD)) h σ H ∧ Same G G' := by
  obtain ⟨a, q1, c1, g1, f1, m1⟩ := S.slots i _ e
  obtain ⟨o, ho⟩ := c1.there
  have S1 := S.setNo (i := i) (x := some (.ref a))
  have es : σ.set i (some (.ref a)) = σ := by
    apply List.ext_getElem?
    intro j
    by_cases hj : i = j
    · subst hj
      have hl := (List.getElem?_eq_some_iff.mp q1).1
      rw [List.getElem?_set_self hl, q1]
    · rw [List.getElem?_set_ne hj]
  rw [es] at S1
  have hi : i < Γ.length := (List.getElem?_eq_some_iff.mp e).1
  have hno : ∀ (j : Nat) (c' : Cell), (Γ.set i .no)[j]? = some (.own c') → σ[j]? ≠ some (some (.ref a)) := fun j c' e1 e2 => by
    by_cases hj : i = j
    · subst hj
      rw [List.getElem?_set_self hi] at e1
      cases e1
    · rw [List.getElem?_set_ne hj] at e1
      exact hj (S.dist i j a c c' e e1 q1 e2)
  obtain ⟨S2, X2⟩ := S1.frz ho g1 f1 m1 hno
  have S3 := S2.set (i := i) (c1.frz X2.gg (by rw [upd_same]; exact ho.symm))
  rw [es, List.set_set] at S3
  exact ⟨_, S3, X2.gg⟩
variable {X : Cx} {st : Stmt}
theorem _root_.L2.PS.imp {t t' : TS} (p : PS X st t) (h : ∀ D σ H, t' D σ H → t D σ H) : PS X st t' := ⟨fun pins s σ H D I q => p.run pins s σ H D I (h D σ H q)⟩
theorem _root_.L2.PSs.imp {sts : List Stmt} {t t' : TS} (p : PSs X sts t) (h : ∀ D σ H, t' D σ H → t D σ H) : PSs X sts t' := ⟨fun pins s σ H D I q => p.run pins s σ H D I (h D σ H q)⟩
theorem sw_no {e : Expr} {tg : Option Expr} {l : Nat} {env : Env} (h : noComp e = true) : swapsWith e tg l env = pure false := by
  cases e <;> first | rfl | (exact absurd h Bool.false_ne_true)
end
section
variable {T : Tb} {ca : Nat → Addr} {cx : Ck} {n : Nat} {N : List Str} {W : WX} {sc : Scope} {X : Cx} {σ : L2.St} {H : Hp} {a b c : CE} {e : Expr}
/-- x = e -/
theorem set_ps (O : XOk T ca cx n N W sc X) {i : Nat} {x : Str} {p' p : Pos} (ht : tgtB N sc i x = true) (hc : chkE cx N a sc e = true) (hw : swB sc x p' e = true) :
    PS X (.Assign [.Name x p'] e p) (tAsg (tI X.K ca W (ρE X.K (strong a)) (evalE T (callN T n) a)) (gName i)) ∧ (fresh a = true → PS X (.Assign [.Name x p'] e p) (tAsg (tI X.K ca W (ρF X.K) (evalE T (callN T n) a)) (gName i))) := by
  obtain ⟨h1, h2, h3⟩ := tgt_loc O ht
  have hnd : X.N.Nodup := by rw [O.hN]; exact O.nd
  by_cases hn : noComp e = true
  · have A := snd a _ _ _ _ O hc
    exact ⟨ps_set hnd h1 h2 A.pe (sw_no hn) h3, fun hf => ps_set hnd h1 h2 (A.pf hf) (sw_no hn) h3⟩
  · cases e <;> first | (exact absurd rfl hn) | (exact absurd hw Bool.false_ne_true) | skip
    rename_i el gens scope q
    have hw : (decide (sc.names.lookup x = some .local) && (p'.line == q.line) && !(scope.names.any fun (n, k) => n == x && (k == .local || k == .cell))) = true := hw
    simp only [Bool.and_eq_true, decide_eq_true_eq] at hw
    obtain ⟨⟨w1, w2⟩, w3⟩ := hw
    have hl := O.hsc.lcl x w1
    have key : ∀ a', fresh a' = true → chkE cx N a' sc (.ListComp el gens scope q) = true → PS X (.Assign [.Name x p'] (.ListComp el gens scope q) p) (tAsg (tI X.K ca W (ρF X.K) (evalE T (callN T n) a')) (gName i)) := by
      intro a' hf hc'
      cases a' <;> first | (exact absurd hf Bool.false_ne_true) | (unfold chkE at hc'; exact absurd hc' Bool.false_ne_true) | skip
      rename_i k srcs t own cond elt
      have h' := hc'
      unfold chkE at hc'
      split at hc' <;> first | (exact absurd hc' Bool.false_ne_true) | skip
      rename_i e1
      clear hc'
      cases e1
      obtain ⟨rfl, q1, q2, q3, q4, q5, q6, q7, q8, q9⟩ := lc_parts O (snds srcs) (snd cond) (snd elt) h'
      exact s_lcSet O q1 q2 q3 q4 q5 q6 q7 q8 q9 h1 hl (sw_true O.kind hl w2 (not_t w3))
    refine ⟨?_, fun hf => key a hf hc⟩
    cases a <;> first | (unfold chkE at hc; exact absurd hc Bool.false_ne_true) | skip
    · exact (key _ rfl hc).imp fun D σ H t => frz_of t
    · rename_i a'
      unfold chkE at hc
      simp only [Bool.and_eq_true] at hc
      exact (key a' hc.1 hc.2).imp fun D σ H t => new_of t
/-- what is shown of a statement -/
def SndS (T : Tb) (ca : Nat → Addr) (cx : Ck) (n : Nat) (N : List Str) (s : CS) : Prop := ∀ (sc : Scope) (st : Stmt) (W : WX) (X : Cx), XOk T ca cx n N W sc X → chkS cx N sc s st = true → PS X st (tS X.K ca W (execS T (callN T n) s))
def SndSs (T : Tb) (ca : Nat → Addr) (cx : Ck) (n : Nat) (N : List Str) (ss : List CS) : Prop := ∀ (sc : Scope) (sts : List Stmt) (W : WX) (X : Cx), XOk T ca cx n N W sc X → chkSs cx N sc ss sts = true → PSs X sts (tS X.K ca W (execSs T (callN T n) ss))
theorem st_asg (i : Nat) : SndS T ca cx n N (.asg i a) := by
  intro sc st W X O h
  unfold chkS at h
  split at h <;> first | (exact absurd h Bool.false_ne_true) | skip
  simp only [Bool.and_eq_true] at h
  obtain ⟨⟨⟨h1, h2⟩, h3⟩, h4⟩ := h
  refine (set_ps O h1 h3 h4).1.imp fun D σ H t => ?_
  obtain ⟨R, G, μ, Γ, hh, S, g⟩ := t
  refine ⟨R, G, μ, Γ, hh, S, (GoS.bnd (ρ := ρE X.K (strong a)) g).mono fun v H1 ⟨d, h1, G1, μ1, S1, X1, r1, g1⟩ => ?_⟩
  exact g1 _ G1 μ1 H1 (S1.set (RE.s r1 h2)) (Same.refl _) (List.prefix_refl _)
theorem st_own (i : Nat) : SndS T ca cx n N (.own i a) := by
  intro sc st W X O h
  unfold chkS at h
  split at h <;> first | (exact absurd h Bool.false_ne_true) | skip
  simp only [Bool.and_eq_true] at h
  obtain ⟨⟨⟨h1, h2⟩, h3⟩, h4⟩ := h
  refine ((set_ps O h1 h3 h4).2 h2).imp fun D σ H t => ?_
  obtain ⟨R, G, μ, Γ, hh, S, g⟩ := t
  refine ⟨R, G, μ, Γ, hh, S, (GoS.bnd (ρ := ρF X.K) g).mono fun v H1 ⟨d, h1, G1, μ1, S1, X1, r1, g1⟩ => ?_⟩
  obtain ⟨q, c, rfl, rfl, hc, f1, f2, f3, f4⟩ := r1
  have key : GoS X.K ca W R G1 μ1 (some (.nx (Γ.set i (.own c)) h1)) D := by
    cases c with
    | lst ds => exact g1
    | dct ks vs => exact g1
    | ins _ _ => exact hc.elim
  refine key _ G1 μ1 H1 ?_ (Same.refl _) (List.prefix_refl _)
  by_cases hi : i < Γ.length
  · exact S1.setOwn hi hc f1 f2 f3 fun j c' e1 _ => f4 j c' e1
  · rw [List.set_eq_of_length_le (by omega), List.set_eq_of_length_le (by rw [← S1.slen]; omega)]
    exact S1
theorem st_ex : SndS T ca cx n N (.ex a) := by
  intro sc st W X O h
  unfold chkS at h
  split at h <;> first | (exact absurd h Bool.false_ne_true) | skip
  simp only [Bool.and_eq_true] at h
  refine (ps_expr (snd a _ _ _ _ O h.1).pe (sw_no h.2)).imp fun D σ H t => ?_
  obtain ⟨R, G, μ, Γ, hh, S, g⟩ := t
  refine ⟨R, G, μ, Γ, hh, S, (GoS.bnd (ρ := ρE X.K (strong a)) g).mono fun v H1 ⟨d, h1, G1, μ1, S1, X1, r1, g1⟩ => ?_⟩
  exact g1 _ G1 μ1 H1 S1 (Same.refl _) (List.prefix_refl _)
theorem st_ret : SndS T ca cx n N (.ret a) := by
  intro sc st W X O h
  unfold chkS at h
  split at h <;> first | (exact absurd h Bool.false_ne_true) | skip
  simp only [Bool.and_eq_true] at h
  refine (ps_ret (snd a _ _ _ _ O h.2).pe).imp fun D σ H t => ?_
  obtain ⟨R, G, μ, Γ, hh, S, g⟩ := t
  refine ⟨R, G, μ, Γ, hh, S, (GoS.bnd (ρ := ρE X.K (strong a)) g).mono fun v H1 ⟨d, h1, G1, μ1, S1, X1, r1, g1⟩ => ?_⟩
  exact g1 v G1 μ1 H1 S1.drop (Same.refl _) (List.prefix_refl _) (RE.s r1 h.1)
theorem st_retN : SndS T ca cx n N .retN := by
  intro sc st W X O h
  unfold chkS at h
  split at h <;> first | (exact absurd h Bool.false_ne_true) | skip
  refine ps_retN.imp fun D σ H t => ?_
  obtain ⟨R, G, μ, Γ, hh, S, g⟩ := t
  exact g .non G μ H S.drop (Same.refl _) (List.prefix_refl _) rfl
theorem st_pass : SndS T ca cx n N .pass := by
  intro sc st W X O h
  unfold chkS at h
  split at h <;> first | (exact absurd h Bool.false_ne_true) | skip
  refine ps_pass.imp fun D σ H t => ?_
  obtain ⟨R, G, μ, Γ, hh, S, g⟩ := t
  exact g σ G μ H S (Same.refl _) (List.prefix_refl _)
theorem st_ite {x y : List CS} (hx : SndSs T ca cx n N x) (hy : SndSs T ca cx n N y) : SndS T ca cx n N (.ite c x y) := by
  intro sc st W X O h
  unfold chkS at h
  split at h <;> first | (exact absurd h Bool.false_ne_true) | skip
  simp only [Bool.and_eq_true] at h
  obtain ⟨⟨⟨h1, h2⟩, h3⟩, h4⟩ := h
  refine (ps_if ((snd c _ _ _ _ O h2).pt h1) (hx _ _ _ _ O h3) (hy _ _ _ _ O h4)).imp fun D σ H t => ?_
  obtain ⟨R, G, μ, Γ, hh, S, g⟩ := t
  rw [execS] at g
  refine ⟨R, G, μ, Γ, hh, S, ?_⟩
  dsimp only
  cases z : evalE T (callN T n) c Γ hh with
  | none => rw [z] at g; exact g.elim
  | some r =>
    rw [z] at g
    cases r with
    | exc e h' => exact fun cls dx G' μ' H' S x => g cls dx σ G' μ' H' S x
    | ok d h' =>
      cases d with
      | bl b =>
        intro b' G1 μ1 H1 S1 X1 e
        cases (show b = b' from e)
        cases b with
        | true => exact ⟨R, G1, μ1, Γ, h', S1, GoS.shift g X1.gg X1.mm⟩
        | false => exact ⟨R, G1, μ1, Γ, h', S1, GoS.shift g X1.gg X1.mm⟩
      | _ => exact g.elim
theorem st_aug (i : Nat) : SndS T ca cx n N (.aug i a) := by
  intro sc st W X O h
  unfold chkS at h
  split at h <;> first | (exact absurd h Bool.false_ne_true) | skip
  simp only [Bool.and_eq_true, decide_eq_true_eq] at h
  obtain ⟨⟨h1, rfl⟩, h2⟩ := h
  obtain ⟨k1, k2, k3⟩ := tgt_loc O h1
  refine (ps_aug (by rw [O.hN]; exact O.nd) k1 k2 (snd a _ _ _ _ O h2).pe ip_add k3).imp fun D σ H t => ?_
  obtain ⟨R, G, μ, Γ, hh, S, g⟩ := t
  rw [execS] at g
  cases z : Γ[i]? with
  | none => rw [z] at g; exact g.elim
  | some s =>
    rw [z] at g
    cases s with
    | val x =>
      obtain ⟨v, e1, r⟩ := S.slots i _ z
      refine ⟨v, e1, R, G, μ, Γ, hh, S, (GoS.bnd (ρ := ρE X.K (strong a)) g).mono fun w H1 ⟨d, h1, G1, μ1, S1, X1, r1, g1⟩ => ?_⟩
      cases x with
      | int xi =>
        cases d with
        | int di =>
          have e2 : v = .int xi := r
          subst e2
          have e3 := int_at (r1 : RE X.K (strong a) Γ σ G1 μ1 H1 (.int di) w).w
          subst e3
          exact ⟨xi, di, rfl, rfl, g1 _ G1 μ1 H1 (S1.set (d := .int (xi + di)) rfl) (Same.refl _) (List.prefix_refl _)⟩
        | _ => exact g1.elim
      | _ => cases d <;> exact g1.elim
    | _ => exact g.elim
theorem st_app (i : Nat) : SndS T ca cx n N (.app i a) := by
  intro sc st W X O h
  unfold chkS at h
  split at h <;> first | (exact absurd h Bool.false_ne_true) | skip
  simp only [Bool.and_eq_true, decide_eq_true_eq] at h
  obtain ⟨⟨⟨⟨⟨h1, rfl⟩, h2⟩, h3⟩, h4⟩, h5⟩ := h
  obtain ⟨k1, k2, k3⟩ := slot_vis O h1
  obtain ⟨d1, d2, d3⟩ := nm_dbg k3
  have hst := star_of (not_t h4) [] X.env
  refine (ps_expr (pe_bm PySem.F.plainAttrs_list PySem.F.slot_list_append PySem.F.type_list_append mt_append (pe_var k1 k2 d1 d2) (pa_cons (snd a _ _ _ _ O h3).pe pa_nil hst) rfl (by rw [hst]; rfl) h5 hst rfl) rfl).imp fun D σ H t => ?_
  obtain ⟨R, G, μ, Γ, hh, S, g⟩ := t
  rw [execS] at g
  cases z : Γ[i]? with
  | none => rw [z] at g; exact g.elim
  | some s =>
    rw [z] at g
    cases s with
    | own c =>
      cases c <;> first | (exact g.elim) | skip
      rename_i ds
      obtain ⟨q, e1, c1, g1, f1, m1⟩ := S.slots i _ z
      obtain ⟨vs, y, l, t⟩ := id c1
      refine ⟨.ref q, e1, .inl ⟨rfl, vs, .of y⟩, R, G, μ, Γ, hh, S, (GoS.bnd (ρ := ρE X.K (strong a)) g).mono fun w H1 ⟨d, h1, G1, μ1, S1, X1, r1, g1⟩ => ?_⟩
      split at g1
      · rename_i hz
        have hq : H1 q = some (.lst vs) := by rw [X1.own i _ q z e1]; exact y
        have t1 := t.mono X1.gg X1.mm
        refine ⟨q, vs, w, rfl, rfl, hq, by rw [sl_eq, ← t.len]; exact hz, ?_⟩
        have S2 := S1.writeOwn (o := .lst (vs ++ [w])) z e1 (c' := .lst (ds ++ [d])) ⟨vs ++ [w], upd_same, by rw [List.length_append]; exact hz, t1.snoc (RE.s r1 h2)⟩
        exact g1 _ G1 μ1 _ S2 (Same.refl _) (List.prefix_refl _)
      · exact g1.elim
    | _ => exact g.elim
end
end DC

set_option linter.all false
set_option Elab.async false
set_option maxRecDepth 100000
set_option maxHeartbeats 4000000
/-! DStm2: subscript stores, loops, blocks. -/
namespace DC
open PySem L2 PySem.Spec PyProof.Rows
section
variable {T : Tb} {ca : Nat → Addr} {cx : Ck} {n : Nat} {N : List Str} {W : WX} {sc : Scope} {X : Cx} {σ : L2.St} {H : Hp} {a b c o i : CE} {e : Expr}
def rPut : TSet := fun o i v H Q => rSetL o i v H Q ∨ rSetD o i v H Q
theorem set_put (hu : X.A.units + 1 < cLine) : PSet X rPut := by
  intro pins s σ H o i v ov iv u Q I ro ri rv h
  rcases h with h | h
  · exact set_list pins s σ H o i v ov iv u Q I ro ri rv h
  · exact set_dict hu pins s σ H o i v ov iv u Q I ro ri rv h
theorem put_rel {K : PySem.W.Frag} {G : Hp} {μ : List Addr} {k : Key} {d : D} {v : V} (r : RD K G μ d v) : ∀ {kvs : List (Key × V)} {ks : List Key} {xs : List D}, kvs.map (·.1) = ks → RDs K G μ xs (kvs.map (·.2)) →
    (kvs.map fun kv => if kv.1 = k then (kv.1, v) else kv).map (·.1) = ks ∧ RDs K G μ (dputL ks xs k d) ((kvs.map fun kv => if kv.1 = k then (kv.1, v) else kv).map (·.2))
  | [], ks, xs, e, t => by
    subst e
    have := RDs.len t
    cases xs with
    | nil => exact ⟨rfl, RDs.nil⟩
    | cons _ _ => simp at this
  | kv :: kvs, ks, xs, e, t => by
    subst e
    cases xs with
    | nil => have := RDs.len t; simp at this
    | cons x xs =>
      obtain ⟨v0, r0, e0, q1, q2⟩ := t
      cases e0
      obtain ⟨i1, i2⟩ := put_rel (k := k) r (kvs := kvs) (xs := xs) rfl q2
      by_cases hk : kv.1 = k
      · refine ⟨?_, ?_⟩
        · simp only [List.map_cons, if_pos hk, i1]
        · simp only [List.map_cons, dputL, if_pos hk]
          exact RDs.cons r i2
      · refine ⟨?_, ?_⟩
        · simp only [List.map_cons, if_neg hk, i1]
        · simp only [List.map_cons, dputL, if_neg hk]
          exact RDs.cons q1 i2
theorem has_any {ks : List Key} {k : Key} : ∀ {kvs : List (Key × V)}, kvs.map (·.1) = ks → hasK ks k = kvs.any fun kv => decide (kv.1 = k)
  | [], e => by subst e; rfl
  | kv :: kvs, e => by
    subst e
    unfold hasK
    rw [List.map_cons, List.any_cons, List.any_cons]
    have := has_any (k := k) (kvs := kvs) rfl
    unfold hasK at this
    rw [this]
theorem key_at {K : PySem.W.Frag} {Γ : List Slot} {G : Hp} {μ : List Addr} {d : D} {v : V} {k : Key} (r : RW K Γ σ G μ H d v) (e : keyOf d = some k) : v = kV k := by
  cases d <;> first | (cases e; done) | skip
  · cases e
    exact int_at r
  · cases e
    exact (str_at r).1
theorem st_stIx : SndS T ca cx n N (.stIx o i a) := by
  intro sc st W X O h
  unfold chkS at h
  split at h <;> first | (exact absurd h Bool.false_ne_true) | skip
  rename_i oe ie p' e p
  simp only [Bool.and_eq_true] at h
  obtain ⟨⟨⟨⟨⟨h1, h2⟩, h3⟩, h4⟩, h5⟩, h6⟩ := h
  have hu := hu_room O
  have hg : PG X (.Subscript oe ie p') (gSub (tI X.K ca W (ρE X.K (strong o)) (evalE T (callN T n) o)) (tI X.K ca W (ρE X.K (strong i)) (evalE T (callN T n) i)) rPut) :=
    pg_sub (snd o _ _ _ _ O h4).pe (snd i _ _ _ _ O h5).pe (set_put (by omega)) (fun v => by cases ie <;> first | rfl | (exact absurd h6 Bool.false_ne_true))
  refine (ps_asg (snd a _ _ _ _ O h2).pe hg (by unfold swapsWithSole; exact sw_no h3) rfl).imp fun D σ H t => ?_
  obtain ⟨R, G, μ, Γ, hh, S, g⟩ := t
  rw [execS] at g
  refine ⟨R, G, μ, Γ, hh, S, (GoS.bnd (ρ := ρE X.K (strong a)) g).mono fun v H1 ⟨d, h1', G1, μ1, S1, X1, r1, g1⟩ => ?_⟩
  refine ⟨R, G1, μ1, Γ, h1', S1, (GoS.bnd (ρ := ρE X.K (strong o)) g1).mono fun ov H2 ⟨y, h2', G2, μ2, S2, X2, r2, g2⟩ => ?_⟩
  refine ⟨R, G2, μ2, Γ, h2', S2, (GoS.bnd (ρ := ρE X.K (strong i)) g2).mono fun iv H3 ⟨z, h3', G3, μ3, S3, X3, r3, g3⟩ => ?_⟩
  have rd : RD X.K G3 μ3 d v := ((RE.s r1 h1).mono X2.gg X2.mm).mono X3.gg X3.mm
  have ro := ((r2 : RE X.K (strong o) Γ σ G2 μ2 H2 y ov).w).mono X3
  have ri := (r3 : RE X.K (strong i) Γ σ G3 μ3 H3 z iv).w
  cases zz : stIxD h3' y z d with
  | none => rw [zz] at g3; exact g3.elim
  | some h4' =>
    rw [zz] at g3
    unfold stIxD at zz
    cases y <;> first | (cases zz; done) | skip
    rename_i m
    obtain ⟨q, rfl, hq⟩ := ref_at ro
    obtain ⟨c, hc, k⟩ := S3.cell_at hq
    simp only [hc] at zz
    cases zp : putCell c z d with
    | none => rw [zp] at zz; cases zz
    | some c' =>
      rw [zp] at zz
      cases zz
      cases c with
      | ins _ _ => cases zp
      | lst ds =>
        cases z <;> first | (cases zp; done) | skip
        rename_i kk
        have zp : (ixN ds.length kk).map (fun j => Cell.lst (ds.set j d)) = some c' := zp
        cases zj : ixN ds.length kk with
        | none => rw [zj] at zp; cases zp
        | some j =>
          rw [zj] at zp
          cases zp
          obtain ⟨vs, y1, y2, y3⟩ := k
          have ei := int_at ri
          subst ei
          refine .inl ⟨q, vs, kk, j, rfl, rfl, y1, by rw [← y3.len]; exact zj, ?_⟩
          obtain ⟨S4, X4⟩ := S3.write (o := .lst (vs.set j v)) (c := .lst (ds.set j d)) hq ⟨vs.set j v, upd_same, by rw [List.length_set]; exact y2, y3.set j rd⟩
          exact g3 _ G3 μ3 _ S4 (Same.refl _) (List.prefix_refl _)
      | dct ks xs =>
        have zp : (match keyOf z with
          | some k => if ks.length < maxLen then some (if hasK ks k then Cell.dct ks (dputL ks xs k d) else .dct (ks ++ [k]) (xs ++ [d])) else none
          | none => none) = some c' := zp
        cases zk : keyOf z with
        | none => rw [zk] at zp; cases zp
        | some kk =>
          rw [zk] at zp
          simp only at zp
          split at zp
          · rename_i hz
            injection zp with zp
            obtain ⟨kvs, y1, y2, y3⟩ := k
            have ei := key_at ri zk
            subst ei
            refine .inr ⟨q, _, rfl, DPut.k y1 (by have := congrArg List.length y2; rw [List.length_map] at this; rw [sl_eq, this]; exact hz), ?_⟩
            have hC : CellAt X.K G3 μ3 (upd H3 q (.dK (putK kvs kk v))) q c' := by
              subst zp
              have ha := has_any (k := kk) y2
              by_cases hb : hasK ks kk = true
              · rw [if_pos hb]
                obtain ⟨p1, p2⟩ := put_rel (k := kk) rd y2 y3
                have : putK kvs kk v = kvs.map fun kv => if kv.1 = kk then (kv.1, v) else kv := by
                  unfold putK
                  rw [if_pos (ha ▸ hb)]
                exact ⟨_, upd_same, by rw [this]; exact p1, by rw [this]; exact p2⟩
              · rw [if_neg hb]
                have : putK kvs kk v = kvs ++ [(kk, v)] := by
                  unfold putK
                  rw [if_neg (ha ▸ hb)]
                exact ⟨_, upd_same, by rw [this, List.map_append, y2]; rfl, by rw [this, List.map_append]; exact y3.snoc rd⟩
            obtain ⟨S4, X4⟩ := S3.write (o := .dK (putK kvs kk v)) hq hC
            exact g3 _ G3 μ3 _ S4 (Same.refl _) (List.prefix_refl _)
          · cases zp
/-! ### loops -/
abbrev bodyF (tg : Tg) (ex : List Slot → List Cell → OutS) : D → List Slot → List Cell → OutS := fun d Γ h => match setTg tg d Γ with
  | some Γ => ex Γ h
  | none => none
theorem st_for {k : ItK} {srcs : List CE} {tg : Tg} {body : List CS} (hb : SndSs T ca cx n N body) : SndS T ca cx n N (.for_ k srcs tg body) := by
  intro sc st W X O h
  unfold chkS at h
  split at h <;> first | (exact absurd h Bool.false_ne_true) | skip
  simp only [Bool.and_eq_true] at h
  obtain ⟨⟨⟨h1, h2⟩, h3⟩, h4⟩ := h
  obtain ⟨wi, pi, sem⟩ := snd_src (T := T) (ca := ca) (n := n) O (fun es q => snds srcs _ _ _ _ O q) h1
  refine (ps_for O.passes O.calm pi (tg_pg O h2) (hb _ _ _ _ O h3) (fold_of (not_t h4))).imp fun D σ H t => ?_
  obtain ⟨R, G, μ, Γ, hh, S, g⟩ := t
  rw [execS] at g
  refine sem σ H R G μ Γ hh _ S ((GoS.bnd (ρ := ρL X.K) g).mono fun vs H1 ⟨ds, h1, G1, μ1, S1, X1, r1, g1⟩ => ?_)
  cases zi : itemsOf k h1 ds with
  | none => rw [zi] at g1; exact g1.elim
  | some its =>
    rw [zi] at g1
    have g1 : GoS X.K ca W R G1 μ1 (forL (bodyF tg (execSs T (callN T n) body)) its Γ h1) D := g1
    refine ⟨ds, h1, G1, μ1, its, S1, r1, zi, fun J hJ => ?_⟩
    refine ⟨fun i m σ' H' => m = its.length - i ∧ i ≤ its.length ∧ ∃ (Gi : Hp) (μi : List Addr) (Γi : List Slot) (hi : List Cell), Sim X.K R Gi μi Γi hi σ' H' ∧ Same G1 Gi ∧ μ1 <+: μi ∧ GoS X.K ca W R Gi μi (forL (bodyF tg (execSs T (callN T n) body)) (its.drop i) Γi hi) D,
      ⟨its.length, by simp, Nat.zero_le _, G1, μ1, Γ, h1, S1, Same.refl _, List.prefix_refl _, g1⟩, ?_⟩
    rintro i m σ' H' ⟨rfl, hi, Gi, μi, Γi, hi', Si, gg, mm, gi⟩
    by_cases hlt : i < its.length
    · refine .inr ?_
      have hd : its[i]? = some its[i] := List.getElem?_eq_getElem hlt
      obtain ⟨go, yl⟩ := (hJ i R Gi μi Γi hi' σ' H' Si gg mm).1 _ hd
      refine ⟨go, fun σ2 H2 => its.length - (i + 1) = its.length - (i + 1) ∧ i + 1 ≤ its.length ∧ ∃ (Gi : Hp) (μi : List Addr) (Γi : List Slot) (hi : List Cell), Sim X.K R Gi μi Γi hi σ2 H2 ∧ Same G1 Gi ∧ μ1 <+: μi ∧ GoS X.K ca W R Gi μi (forL (bodyF tg (execSs T (callN T n) body)) (its.drop (i + 1)) Γi hi) D,
        fun σ2 H2 q => ⟨its.length - (i + 1), by omega, q⟩, fun x H2 y => ?_⟩
      obtain ⟨G', S2, X2, rx, sm⟩ := yl x H2 y
      rw [List.drop_eq_getElem_cons hlt, forL] at gi
      cases zt : setTg tg its[i] Γi with
      | none =>
        have : bodyF tg (execSs T (callN T n) body) its[i] Γi hi' = none := by unfold bodyF; rw [zt]
        rw [this] at gi
        exact gi.elim
      | some Γ' =>
        have eb : bodyF tg (execSs T (callN T n) body) its[i] Γi hi' = execSs T (callN T n) body Γ' hi' := by unfold bodyF; rw [zt]
        rw [eb] at gi
        refine tg_go S2 rx zt fun σ3 S3 _ => ?_
        refine ⟨R, G', μi, Γ', hi', S3, ?_⟩
        have gi := GoS.shift gi X2.gg X2.mm
        have gg' := gg.trans X2.gg
        revert gi
        cases execSs T (callN T n) body Γ' hi' with
        | none => exact fun gi => gi
        | some r =>
          cases r with
          | nx Γ2 h2 => exact fun gi σ4 G4 μ4 H4 S4 e4 m4 => ⟨rfl, hlt, G4, μ4, Γ2, h2, S4, gg'.trans e4, mm.trans m4, GoS.shift gi e4 m4⟩
          | cont Γ2 h2 => exact fun gi σ4 G4 μ4 H4 S4 e4 m4 => ⟨rfl, hlt, G4, μ4, Γ2, h2, S4, gg'.trans e4, mm.trans m4, GoS.shift gi e4 m4⟩
          | brk Γ2 h2 => exact fun gi => gi
          | ret d h2 => exact fun gi => gi
          | exc e Γ2 h2 => exact fun gi => gi
    · have ei : i = its.length := by omega
      rw [ei, List.drop_length] at gi
      exact .inl ⟨(hJ i R Gi μi Γi hi' σ' H' Si gg mm).2 ei, gi σ' Gi μi H' Si (Same.refl _) (List.prefix_refl _)⟩
/-! ### blocks -/
theorem sts_nil : SndSs T ca cx n N [] := by
  intro sc sts W X O h
  unfold chkSs at h
  cases sts with
  | cons _ _ => exact absurd h Bool.false_ne_true
  | nil =>
    refine pss_nil.imp fun D σ H t => ?_
    obtain ⟨R, G, μ, Γ, hh, S, g⟩ := t
    exact g σ G μ H S (Same.refl _) (List.prefix_refl _)
theorem sts_frz {ss : List CS} {i : Nat} (hs : SndSs T ca cx n N ss) : SndSs T ca cx n N (.frz i :: ss) := by
  intro sc sts W X O h
  unfold chkSs at h
  refine (hs _ _ _ _ O h).imp fun D σ H t => ?_
  obtain ⟨R, G, μ, Γ, hh, S, g⟩ := t
  rw [execSs, execS] at g
  cases z : Γ[i]? with
  | none => rw [z] at g; exact g.elim
  | some s =>
    rw [z] at g
    cases s with
    | own c =>
      obtain ⟨G', S', gg⟩ := S.frzOwn z
      exact ⟨R, G', μ, _, hh, S', GoS.shift g gg (List.prefix_refl _)⟩
    | _ => exact g.elim
theorem sts_cons {s : CS} {ss : List CS} (h0 : ∀ i, s ≠ .frz i) (h1 : SndS T ca cx n N s) (hs : SndSs T ca cx n N ss) : SndSs T ca cx n N (s :: ss) := by
  intro sc sts W X O h
  have h' : ∃ st rest, sts = st :: rest ∧ chkS cx N sc s st = true ∧ chkSs cx N sc ss rest = true := by
    cases s <;> first | (exact absurd rfl (h0 _)) | skip
    all_goals
      unfold chkSs at h
      cases sts with
      | nil => exact absurd h Bool.false_ne_true
      | cons st rest =>
        simp only [Bool.and_eq_true] at h
        exact ⟨st, rest, rfl, h.1, h.2⟩
  obtain ⟨st, rest, rfl, k1, k2⟩ := h'
  refine (pss_cons (h1 _ _ _ _ O k1) (hs _ _ _ _ O k2)).imp fun D σ H t => ?_
  obtain ⟨R, G, μ, Γ, hh, S, g⟩ := t
  rw [execSs] at g
  exact ⟨R, G, μ, Γ, hh, S, g.then⟩
theorem st_never {s : CS} (h : ∀ st sc, chkS cx N sc s st = false) : SndS T ca cx n N s := fun sc st W X O q => by rw [h] at q; cases q
mutual
theorem sndS : ∀ s : CS, SndS T ca cx n N s
  | .asg i a => st_asg i
  | .own i a => st_own i
  | .frz i => st_never fun st sc => by unfold chkS; rfl
  | .utup is a => st_never fun st sc => by unfold chkS; rfl
  | .stIx o i a => st_stIx
  | .aug i a => st_aug i
  | .app i a => st_app i
  | .ex a => st_ex
  | .ret a => st_ret
  | .retN => st_retN
  | .pass => st_pass
  | .ite t a b => st_ite (sndSs a) (sndSs b)
  | .for_ k srcs tg body => st_for (sndSs body)
theorem sndSs : ∀ ss : List CS, SndSs T ca cx n N ss
  | [] => sts_nil
  | .frz i :: ss => sts_frz (sndSs ss)
  | .asg i a :: ss => sts_cons (fun _ z => by cases z) (sndS _) (sndSs ss)
  | .own i a :: ss => sts_cons (fun _ z => by cases z) (sndS _) (sndSs ss)
  | .utup i a :: ss => sts_cons (fun _ z => by cases z) (sndS _) (sndSs ss)
  | .stIx o i a :: ss => sts_cons (fun _ z => by cases z) (sndS _) (sndSs ss)
  | .aug i a :: ss => sts_cons (fun _ z => by cases z) (sndS _) (sndSs ss)
  | .app i a :: ss => sts_cons (fun _ z => by cases z) (sndS _) (sndSs ss)
  | .ex a :: ss => sts_cons (fun _ z => by cases z) (sndS _) (sndSs ss)
  | .ret a :: ss => sts_cons (fun _ z => by cases z) (sndS _) (sndSs ss)
  | .retN :: ss => sts_cons (fun _ z => by cases z) (sndS _) (sndSs ss)
  | .pass :: ss => sts_cons (fun _ z => by cases z) (sndS _) (sndSs ss)
  | .ite t a b :: ss => sts_cons (fun _ z => by cases z) (sndS _) (sndSs ss)
  | .for_ k srcs tg body :: ss => sts_cons (fun _ z => by cases z) (sndS _) (sndSs ss)
end
end
end DC

set_option linter.all false
set_option Elab.async false
set_option maxRecDepth 100000
set_option maxHeartbeats 4000000
/-! DFn: every def of a table keeps the promise that its core tells; the end. -/
namespace DC
open PySem L2 PySem.Spec PyProof.Rows
/-- a def of the text and its core -/
structure FD where
  nm : Str
  st : Stmt
  N : List Str
  ps : List Str
  body : List CS
abbrev GT := List (Str × D)
def mkT (tab : List FD) (gt : GT) : Tb := ⟨fun f => (tab[f]?).map fun d => ⟨d.ps.length, d.N.length, d.body⟩, fun i => (gt[i]?).map (·.2)⟩
def mkC (tab : List FD) (gt : GT) : Ck := ⟨fun f => (tab[f]?).map (·.nm), fun i => (gt[i]?).map (·.1)⟩
def okFD (cx : Ck) (d : FD) : Bool :=
  (match (defScope d.st).kind with | .function => true | _ => false) && !(defScope d.st).isCoroutine && !(defScope d.st).isGenerator && decide d.N.Nodup && decide (d.N.take d.ps.length = d.ps) &&
    (d.ps.all fun x => locB (defScope d.st) x) && ((defScope d.st).names.all fun y => match y.2 with | .free => false | _ => true) && chkSs cx d.N (defScope d.st) d.body (defBody d.st)
theorem okFD_of {cx : Ck} {d : FD} (h : okFD cx d = true) : FnScope d.N d.ps (defScope d.st) ∧ chkSs cx d.N (defScope d.st) d.body (defBody d.st) = true := by
  unfold okFD at h
  simp only [Bool.and_eq_true, decide_eq_true_eq] at h
  obtain ⟨⟨⟨⟨⟨⟨⟨h1, h2⟩, h3⟩, h4⟩, h5⟩, h6⟩, h7⟩, h8⟩ := h
  refine ⟨⟨?_, not_t h2, not_t h3, h4, h5, fun x hx => ?_, fun y hy e => ?_⟩, h8⟩
  · split at h1
    · assumption
    · cases h1
  · have q := List.all_eq_true.mp h6 x hx
    unfold locB at q
    split at q
    · exact .inl (by assumption)
    · exact .inr (by assumption)
    · cases q
  · have q := List.all_eq_true.mp h7 y hy
    rw [e] at q
    cases q
/-- what the top has written -/
structure TopOk (K : PySem.W.Frag) (mg : Str → Option Value) (tab : List FD) (gt : GT) : Prop where
  fns : ∀ (f : Nat) (d : FD), tab[f]? = some d → ∃ (fa : Addr) (fd : FuncData), Fun K d.nm d.nm d.st fa fd ∧ mg d.nm = some (.ref fa) ∧ Binds K fd d.ps []
  globs : ∀ (i : Nat) (nm : Str) (dv : D), gt[i]? = some (nm, dv) → ∃ (u : Value) (v : V), mg nm = some u ∧ RelV v u ∧ ∀ G μ, RD K G μ dv v
  blt : ∀ x ∈ bltNames, mg (Str.ofString x) = none
theorem start_sim {K : PySem.W.Frag} {R : Fr} {G : Hp} {μ : List Addr} {h : List Cell} {H : Hp} {ds : List D} {vs : List V} {N : List Str} (S : Sim K R G μ [] h [] H) (t : RDs K G μ ds vs) :
    Sim K R G μ (ds.map .val ++ List.replicate (N.length - ds.length) .no) h (L2.start N vs) H := by
  have hl := t.len
  refine ⟨S.gh, S.fh, S.g0, S.m0, S.gf, S.mf, S.mg, S.nd, S.len, S.cells, ?_, fun i s e => ?_, fun i j a c c' e _ _ _ => ?_⟩
  · simp [L2.start, hl]
  · by_cases hi : i < ds.length
    · rw [List.getElem?_append_left (by simpa using hi), List.getElem?_map, List.getElem?_eq_getElem hi] at e
      cases e
      obtain ⟨v, hv, r⟩ := t.at (List.getElem?_eq_getElem hi)
      refine ⟨v, ?_, r⟩
      unfold L2.start
      rw [List.getElem?_append_left (by simpa [← hl] using hi), List.getElem?_map, hv]
      rfl
    · rw [List.getElem?_append_right (by simpa using hi)] at e
      rw [List.getElem?_replicate] at e
      split at e
      · cases e
        trivial
      · cases e
  · by_cases hi : i < ds.length
    · rw [List.getElem?_append_left (by simpa using hi), List.getElem?_map, List.getElem?_eq_getElem hi] at e
      cases e
    · rw [List.getElem?_append_right (by simpa using hi), List.getElem?_replicate] at e
      split at e <;> cases e
section
variable {P : Program} {w : World} {K : PySem.W.Frag} {mg : Str → Option Value} {base : Heap} {tab : List FD} {gt : GT} {ca : Nat → Addr}
theorem sp_len {n f : Nat} {d : FD} (hd : tab[f]? = some d) (vs : List V) (H : Hp) (Q : VK) (E : XK) (h : spFn K ca (mkT tab gt) n f vs H Q E) : vs.length = d.ps.length := by
  obtain ⟨G, μ, h, ds, F, S, t, e1, e2, _⟩ := h
  unfold mkT at e1
  simp only [hd, Option.map_some] at e1
  cases e1
  rw [← t.len, e2]
theorem fn_step (Tp : TopOk K mg tab gt) (ok : tab.all (okFD (mkC tab gt)) = true) {n : Nat} (W0 : Wd P w K mg base (mkT tab gt) ca (mkC tab gt) n) {f : Nat} {d : FD} {fa : Addr} {fd : FuncData} (hd : tab[f]? = some d) (F : Fun K d.nm d.nm d.st fa fd) :
    FnOk P w K mg base (L2.CX P w) (n + 1) fa fd d.ps (spFn K ca (mkT tab gt) (n + 1) f) := by
  obtain ⟨S0, hchk⟩ := okFD_of (List.all_eq_true.mp ok d (List.mem_of_getElem? hd))
  refine F.okX S0 (sp_len hd) fun cdv A outer s H vs Q E hr hsp => ?_
  let X : Cx := cxOf (L2.CX P w) P w K mg base d.N d.nm (defScope d.st) fa cdv A outer s H E
  have O : XOk (mkT tab gt) ca (mkC tab gt) n d.N (fun cls dx _ H => E cls dx H) (defScope d.st) X := by
    refine ⟨W0, rfl, S0.nd, ScOk.self (env := X.env), S0.kind, hr, takes_of rfl rfl rfl rfl, passes_of rfl, rfl, fun x hx => ?_⟩
    exact .inl rfl
  refine ⟨_, sndSs d.body (defScope d.st) (defBody d.st) _ X O hchk, ?_⟩
  obtain ⟨G, μ, h, ds, F', S, t, e1, e2, g⟩ := hsp
  unfold mkT at e1
  simp only [hd, Option.map_some] at e1
  cases e1
  refine ⟨_, G, μ, _, h, start_sim (N := d.N) S t, ?_⟩
  have ef : (mkT tab gt).fn f = some ⟨d.ps.length, d.N.length, d.body⟩ := by
    unfold mkT
    simp only [hd, Option.map_some]
  have e2' : ds.length = d.ps.length := e2
  rw [callN, ef] at g
  simp only [e2', if_true] at g
  rw [e2']
  revert g
  cases execSs (mkT tab gt) (callN (mkT tab gt) n) d.body (ds.map .val ++ List.replicate (d.N.length - d.ps.length) .no) h with
  | none => exact fun g => g
  | some r =>
    cases r with
    | nx Γ h' => exact fun g σ G' μ' H' S' e m => g .non G' μ' H' S'.drop ⟨e, m, fun i c a q _ => by simp at q⟩ (.of rfl)
    | brk Γ h' => exact fun g => g.elim
    | cont Γ h' => exact fun g => g.elim
    | ret d h' => exact fun g v G' μ' H' S' e m r => g v G' μ' H' S' ⟨e, m, fun i c a q _ => by simp at q⟩ (.of r)
    | exc e Γ h' => exact fun g cls dx σ G' μ' H' S' x => g cls dx G' μ' H' S'.drop x
theorem wd_of (Tp : TopOk K mg tab gt) (ok : tab.all (okFD (mkC tab gt)) = true) : ∀ n : Nat, Wd P w K mg base (mkT tab gt) ca (mkC tab gt) n := by
  have rest : ∀ n, (∀ (f : Nat) (d : FD) (fa : Addr) (fd : FuncData), tab[f]? = some d → Fun K d.nm d.nm d.st fa fd → FnOk P w K mg base (L2.CX P w) n fa fd d.ps (spFn K ca (mkT tab gt) n f)) → Wd P w K mg base (mkT tab gt) ca (mkC tab gt) n := by
    intro n hf
    refine ⟨fun f nm e => ?_, fun i nm e => ?_, Tp.blt⟩
    · unfold mkC at e
      simp only at e
      cases z : tab[f]? with
      | none => rw [z] at e; cases e
      | some d =>
        rw [z] at e
        cases e
        obtain ⟨fa, fd, F, m, b⟩ := Tp.fns f d z
        exact ⟨fa, fd, d.ps, m, F.kp, b, hf f d fa fd z F⟩
    · unfold mkC at e
      simp only at e
      cases z : gt[i]? with
      | none => rw [z] at e; cases e
      | some p =>
        rw [z] at e
        cases e
        obtain ⟨u, v, m, r, rd⟩ := Tp.globs i p.1 p.2 z
        refine ⟨u, m, fun d e => ?_⟩
        unfold mkT at e
        simp only [z, Option.map_some] at e
        cases e
        exact ⟨v, r, rd⟩
  intro n
  induction n with
  | zero =>
    refine rest 0 fun f d fa fd hd F => ⟨sp_len hd, fun A outer s H args us vs Q E _ _ _ _ hsp => ?_⟩
    obtain ⟨G, μ, h, ds, F', S, t, e1, e2, g⟩ := hsp
    exact g.elim
  | succ n ih => exact rest (n + 1) fun f d fa fd hd F => fn_step Tp ok ih hd F
theorem fn_all (Tp : TopOk K mg tab gt) (ok : tab.all (okFD (mkC tab gt)) = true) {n f : Nat} {d : FD} {fa : Addr} {fd : FuncData} (hd : tab[f]? = some d) (F : Fun K d.nm d.nm d.st fa fd) :
    FnOk P w K mg base (L2.CX P w) (n + 1) fa fd d.ps (spFn K ca (mkT tab gt) (n + 1) f) := fn_step Tp ok (wd_of Tp ok n) hd F
theorem no_exc {H : Hp} {s s' : Shared} {e : Value} (h : L2.CX P w [] H s (fun _ _ _ => False) e s') : False := by
  obtain ⟨_, _, _, _, _, _, _, _, _, _, _, _, z⟩ := h
  exact z.elim
/-- the law's promise at the row's call -/
theorem law_sp {n f : Nat} {d : FD} {h' : List Cell} (hd : tab[f]? = some d) (h1 : d.ps.length = 1) {ns : List Int} (hc : callN (mkT tab gt) n f [.scr (ns.map .int)] [] = some (.ok (.bl true) h')) {H : Hp} {a : Addr} (hq : SqL K H a (ns.map V.int)) (hz : ns.length ≤ maxLen) :
    spFn K ca (mkT tab gt) n f [.ref a] H (fun v _ => v = .bl true) fun _ _ _ => False := by
  have S : Sim K ⟨hminus H [], H, []⟩ H [] [] [] [] H := by
    refine ⟨Same.refl _, fun a o e => (hm_to (show hminus H [] a = some o from e)).2, Same.refl _, List.prefix_refl _, fun a e => .inl e, fun a e => (by cases e), fun a e => (by cases e), List.nodup_nil, rfl, fun n a c e => (by simp at e), rfl, fun i s e => (by simp at e), fun i j a c c' e => (by simp at e)⟩
  have hints : RDs K H [] (ns.map .int) (ns.map V.int) := by
    clear hc hq hz
    induction ns with
    | nil => exact RDs.nil
    | cons i r ih => exact RDs.cons (d := .int i) rfl ih
  refine ⟨H, [], [], [.scr (ns.map .int)], ⟨d.ps.length, d.N.length, d.body⟩, S, RDs.cons (d := .scr _) ⟨a, ns.map V.int, rfl, hq, by rw [List.length_map]; exact hz, hints⟩ RDs.nil, ?_, h1.symm, ?_⟩
  · unfold mkT
    simp only [hd, Option.map_some]
  · rw [hc]
    intro v G' μ' H' S' X' r
    exact r
theorem law_walk {l : PySem.W.OpenLaw} {q : Program} {loose : List Str} {XP : (Str → Option Value) → Heap → Prop} {YP : World → Heap → Prop} {dr : DefRec} {KK : Params → PySem.W.Frag} {n f : Nat} {d : FD} {x : Str} (hn : l.most = some 63) (hdf : dr.params.defaults = []) (hr : Room (n + 1) callerA)
    (hY : ∀ (w : World) (h : Heap), YP w h → (KK w.params).In h) (hd : tab[f]? = some d) (hnm : dr.name = d.nm) (hps : d.ps = [x]) (ok : tab.all (okFD (mkC tab gt)) = true)
    (top : ∀ (w : World) (mg : Str → Option Value) (h : Heap), (KK w.params).In h → h.Ns mainGlobals mg → TopOk (KK w.params) mg tab gt)
    (hbind : ∀ (K : PySem.W.Frag) (fa : Addr) (fd : FuncData), Fun K d.nm d.nm d.st fa fd → ∀ (s : Shared) (u : Value), BindsTo s fd ⟨[u], []⟩ [(x, u)])
    (hlaw : ∀ ns : List Int, ns.length ≤ 63 → ∃ h', callN (mkT tab gt) (n + 1) f [.scr (ns.map .int)] [] = some (.ok (.bl true) h')) :
    PySem.W.WalkO q loose XP YP l.row.toRowW dr [] (fun f vs => PySem.call f vs) := by
  refine L2.walk_of (n := 63) (k := n + 1) (x := x) (CX := fun w => L2.CX l.prog w) (sp := fun w => spFn (KK w.params) (fun _ => 0) (mkT tab gt) (n + 1) f) hn (by decide) hdf hr hY (fun w mg fa h KX G hmg => ?_) (fun w H a ns hl hO hS => ?_) fun w H s e s' z => no_exc z
  · have Tp := top w mg h KX G
    obtain ⟨fa', fd, F, m, b⟩ := Tp.fns f d hd
    rw [hnm, m] at hmg
    cases hmg
    refine ⟨fd, hbind _ _ fd F, fun base KB GB => ?_⟩
    have := fn_all (P := l.prog) (w := w) (base := base) (ca := fun _ => 0) (n := n) Tp ok hd F
    rw [hps] at this
    exact this
  · obtain ⟨h', e⟩ := hlaw ns hl
    exact law_sp hd (by rw [hps]; rfl) e hS (Nat.le_trans hl (by decide))
end
end DC

set_option linter.all false
set_option Elab.async false
set_option maxRecDepth 100000
set_option maxHeartbeats 4000000
/-! DWp: what is to hold of an evaluation (it comes to an end without an exception, and then Q). -/
namespace DC
open PySem (Str)
def okO {α : Type} (m : Out α) (Q : α → List Cell → Prop) : Prop := match m with
  | some (.ok a h) => Q a h
  | _ => False
def onO {α : Type} (m : Option α) (Q : α → Prop) : Prop := match m with
  | some a => Q a
  | none => False
def onB (d : D) (Q : Bool → Prop) : Prop := match d with
  | .bl b => Q b
  | _ => False
def okS (m : OutS) (N : List Slot → List Cell → Prop) (R : D → List Cell → Prop) : Prop := match m with
  | some (.nx Γ h) => N Γ h
  | some (.ret d h) => R d h
  | _ => False
section
variable {α β : Type} {m : Out α} {Q : α → List Cell → Prop}
theorem okO.mono {Q' : α → List Cell → Prop} (g : okO m Q) (k : ∀ a h, Q a h → Q' a h) : okO m Q' := by
  match m, g with
  | some (.ok a h), g => exact k a h g
theorem okO_bnd {f : α → List Cell → Out β} {Q : β → List Cell → Prop} : okO (bnd m f) Q = okO m fun a h => okO (f a h) Q := by
  match m with
  | none => rfl
  | some (.exc _ _) => rfl
  | some (.ok _ _) => rfl
theorem okO_ok {a : α} {h : List Cell} : okO (some (.ok a h)) Q = Q a h := rfl
theorem okO_none : okO (none : Out α) Q = False := rfl
theorem okO_lift {o : Option α} {h : List Cell} : okO (liftO o h) Q = onO o fun a => Q a h := by
  cases o <;> rfl
theorem okO_calm : okO (calmO m) Q = okO m Q := by
  match m with
  | none => rfl
  | some (.exc _ _) => rfl
  | some (.ok _ _) => rfl
theorem onO_some {a : α} {Q : α → Prop} : onO (some a) Q = Q a := rfl
theorem onO_none {Q : α → Prop} : onO (none : Option α) Q = False := rfl
theorem onO_map {o : Option α} {f : α → β} {Q : β → Prop} : onO (o.map f) Q = onO o fun a => Q (f a) := by
  cases o <;> rfl
theorem onB_bl {b : Bool} {Q : Bool → Prop} : onB (.bl b) Q = Q b := rfl
theorem ok_eq {a : α} {h : List Cell} (g : okO m fun x h' => x = a ∧ h' = h) : m = some (.ok a h) := by
  match m, g with
  | some (.ok b h2), g =>
    obtain ⟨e1, e2⟩ : b = a ∧ h2 = h := g
    rw [e1, e2]
variable {N : List Slot → List Cell → Prop} {R : D → List Cell → Prop}
theorem okS.mono {s : OutS} {N' : List Slot → List Cell → Prop} {R' : D → List Cell → Prop} (g : okS s N R) (k : ∀ Γ h, N Γ h → N' Γ h) (k2 : ∀ d h, R d h → R' d h) : okS s N' R' := by
  match s, g with
  | some (.nx Γ h), g => exact k Γ h g
  | some (.ret d h), g => exact k2 d h g
theorem okS_bnd {Γ : List Slot} {f : α → List Cell → OutS} : okS (bndS Γ m f) N R = okO m fun a h => okS (f a h) N R := by
  match m with
  | none => rfl
  | some (.exc _ _) => rfl
  | some (.ok _ _) => rfl
theorem okS_then {s : OutS} {f : List Slot → List Cell → OutS} : okS (thenS s f) N R = okS s (fun Γ h => okS (f Γ h) N R) R := by
  match s with
  | none => rfl
  | some (.nx _ _) => rfl
  | some (.brk _ _) => rfl
  | some (.cont _ _) => rfl
  | some (.ret _ _) => rfl
  | some (.exc _ _ _) => rfl
/-- a for, by an invariant -/
theorem for_inv {f : D → List Slot → List Cell → OutS} (I : Nat → List Slot → List Cell → Prop) : ∀ {its : List D} {i : Nat} {Γ : List Slot} {h : List Cell}, I i Γ h → (∀ j d Γ h, its[j]? = some d → I (i + j) Γ h → okS (f d Γ h) (I (i + j + 1)) R) → (∀ Γ h, I (i + its.length) Γ h → N Γ h) → okS (forL f its Γ h) N R
  | [], i, Γ, h, h0, hs, hN => hN Γ h h0
  | d :: ds, i, Γ, h, h0, hs, hN => by
    have g := hs 0 d Γ h rfl h0
    have step : ∀ Γ h, I (i + 0 + 1) Γ h → okS (forL f ds Γ h) N R := fun Γ h q => by
      refine for_inv (I := I) (i := i + 1) (its := ds) (by simpa using q) (fun j d Γ h e q => ?_) fun Γ h q => hN Γ h ?_
      · have := hs (j + 1) d Γ h (by simpa using e) (by rw [show i + (j + 1) = i + 1 + j by omega]; exact q)
        rw [show i + 1 + j + 1 = i + (j + 1) + 1 by omega]
        exact this
      · rw [List.length_cons, show i + (ds.length + 1) = i + 1 + ds.length by omega]
        exact q
    rw [forL]
    match f d Γ h, g with
    | some (.nx Γ h), g => exact step Γ h g
    | some (.ret d h), g => exact g
/-- a comprehension's loop, by an invariant -/
theorem lc_inv {f : D → List Cell → Out (Option D)} (I : Nat → List D → List Cell → Prop) {Q : List D → List Cell → Prop} : ∀ {its : List D} {i : Nat} {acc : List D} {h : List Cell}, I i acc h → (∀ j d acc h, its[j]? = some d → I (i + j) acc h → okO (f d h) fun y h => I (i + j + 1) (acc ++ y.toList) h) → (∀ acc2 h, I (i + its.length) (acc ++ acc2) h → Q acc2 h) → okO (lcL f its h) Q
  | [], i, acc, h, h0, hs, hQ => hQ [] h (by simpa using h0)
  | d :: ds, i, acc, h, h0, hs, hQ => by
    have g := hs 0 d acc h rfl h0
    rw [lcL, okO_bnd]
    refine g.mono fun y h q => ?_
    rw [okO_bnd]
    refine lc_inv (I := I) (i := i + 1) (acc := acc ++ y.toList) (its := ds) q (fun j d acc h e q => ?_) fun acc2 h q => hQ _ h ?_
    · have := hs (j + 1) d acc h (by simpa using e) (by rw [show i + (j + 1) = i + 1 + j by omega]; exact q)
      rw [show i + 1 + j + 1 = i + (j + 1) + 1 by omega]
      exact this
    · rw [List.length_cons, show i + (ds.length + 1) = i + 1 + ds.length by omega]
      cases y with
      | none => simpa using q
      | some y => simpa using q
theorem lc_pure {f : D → List Cell → Out (Option D)} {g : D → D} {h : List Cell} : ∀ {ds : List D}, (∀ d ∈ ds, okO (f d h) fun y h' => y = some (g d) ∧ h' = h) → lcL f ds h = some (.ok (ds.map g) h)
  | [], _ => rfl
  | d :: ds, hf => by
    have h1 := ok_eq (hf d List.mem_cons_self)
    have h2 := lc_pure (f := f) (g := g) (h := h) fun x hx => hf x (List.mem_cons_of_mem _ hx)
    rw [lcL, h1]
    show bnd (lcL f ds h) _ = _
    rw [h2]
    rfl
theorem lc_filter {f : D → List Cell → Out (Option D)} {p : D → Bool} {h : List Cell} : ∀ {ds : List D}, (∀ d ∈ ds, okO (f d h) fun y h' => y = (if p d = true then some d else none) ∧ h' = h) → lcL f ds h = some (.ok (ds.filter p) h)
  | [], _ => rfl
  | d :: ds, hf => by
    have h1 := ok_eq (hf d List.mem_cons_self)
    have h2 := lc_filter (f := f) (p := p) (h := h) fun x hx => hf x (List.mem_cons_of_mem _ hx)
    rw [lcL, h1]
    show bnd (lcL f ds h) _ = _
    rw [h2]
    cases hp : p d <;> simp [bnd, List.filter, hp]
end
section
variable {T : Tb} {c : Call} {Γ : List Slot} {h : List Cell} {Q : D → List Cell → Prop} {QL : List D → List Cell → Prop} {N : List Slot → List Cell → Prop} {R : D → List Cell → Prop}
def okE (T : Tb) (c : Call) (e : CE) (Γ : List Slot) (h : List Cell) (Q : D → List Cell → Prop) : Prop := okO (evalE T c e Γ h) Q
def okEs (T : Tb) (c : Call) (es : List CE) (Γ : List Slot) (h : List Cell) (Q : List D → List Cell → Prop) : Prop := okO (evalEs T c es Γ h) Q
def okC (T : Tb) (c : Call) (s : CS) (Γ : List Slot) (h : List Cell) (N : List Slot → List Cell → Prop) (R : D → List Cell → Prop) : Prop := okS (execS T c s Γ h) N R
def okCs (T : Tb) (c : Call) (s : List CS) (Γ : List Slot) (h : List Cell) (N : List Slot → List Cell → Prop) (R : D → List Cell → Prop) : Prop := okS (execSs T c s Γ h) N R
def onVal (s : Option Slot) (Q : D → Prop) : Prop := match s with
  | some (.val d) => Q d
  | _ => False
def onOwn (s : Option Slot) (Q : Cell → Prop) : Prop := match s with
  | some (.own c) => Q c
  | _ => False
theorem onVal_val {d : D} {Q : D → Prop} : onVal (some (.val d)) Q = Q d := rfl
theorem onOwn_own {d : Cell} {Q : Cell → Prop} : onOwn (some (.own d)) Q = Q d := rfl
theorem okE_c {d : D} : okE T c (.c d) Γ h Q = Q d h := rfl
theorem okE_no : okE T c .no Γ h Q = Q .non h := rfl
theorem okE_v {i : Nat} : okE T c (.v i) Γ h Q = onVal Γ[i]? fun d => Q d h := by
  unfold okE
  rw [evalE]
  match Γ[i]? with
  | none => rfl
  | some .no => rfl
  | some (.own _) => rfl
  | some (.val d) => rfl
theorem okE_pk {i : Nat} : okE T c (.pk i) Γ h Q = onOwn Γ[i]? fun c => Q c.toD h := by
  unfold okE
  rw [evalE]
  match Γ[i]? with
  | none => rfl
  | some .no => rfl
  | some (.own _) => rfl
  | some (.val d) => rfl
theorem okE_g {i : Nat} : okE T c (.g i) Γ h Q = onO (T.glob i) fun d => Q d h := by
  unfold okE
  rw [evalE, okO_lift]
theorem okE_bin {o : Op} {a b : CE} : okE T c (.bin o a b) Γ h Q = okE T c a Γ h fun x h => okE T c b Γ h fun y h => onO (binD o h x y) fun d => Q d h := by
  unfold okE
  rw [evalE]
  simp only [okO_bnd, okO_lift]
theorem okE_neg {a : CE} : okE T c (.neg a) Γ h Q = okE T c a Γ h fun x h => onO (negD x) fun d => Q d h := by
  unfold okE
  rw [evalE]
  simp only [okO_bnd, okO_lift]
theorem okE_cmp {o : Cm} {a b : CE} : okE T c (.cmp o a b) Γ h Q = okE T c a Γ h fun x h => okE T c b Γ h fun y h => onO (cmpD o h x y) fun d => Q d h := by
  unfold okE
  rw [evalE]
  simp only [okO_bnd, okO_lift]
theorem okE_chain {o o' : Cm} {a b e : CE} : okE T c (.chain o o' a b e) Γ h Q = okE T c a Γ h fun x h => okE T c b Γ h fun y h => onO (cmpD o h x y) fun d => onB d fun p => if p = true then okE T c e Γ h fun z h => onO (cmpD o' h y z) fun d => Q d h else Q (.bl false) h := by
  unfold okE
  rw [evalE]
  simp only [okO_bnd]
  congr
  funext x h
  congr
  funext y h
  match cmpD o h x y with
  | none => rfl
  | some (.bl true) => simp [onO, onB, okO_bnd, okO_lift]
  | some (.bl false) => simp [onO, onB, okO_ok]
  | some .non => rfl
  | some (.int _) => rfl
  | some (.str _) => rfl
  | some (.tup _) => rfl
  | some (.lst _) => rfl
  | some (.dct _ _) => rfl
  | some (.scr _) => rfl
  | some (.ref _) => rfl
theorem okE_and {a b : CE} : okE T c (.and a b) Γ h Q = okE T c a Γ h fun x h => onB x fun p => if p = true then okE T c b Γ h Q else Q (.bl false) h := by
  unfold okE
  rw [evalE]
  simp only [okO_bnd]
  congr
  funext x h
  match x with
  | .bl true => simp [onB]
  | .bl false => simp [onB, okO_ok]
  | .non => rfl
  | (.int _) => rfl
  | (.str _) => rfl
  | (.tup _) => rfl
  | (.lst _) => rfl
  | (.dct _ _) => rfl
  | (.scr _) => rfl
  | (.ref _) => rfl
theorem okE_or {a b : CE} : okE T c (.or a b) Γ h Q = okE T c a Γ h fun x h => onB x fun p => if p = true then Q (.bl true) h else okE T c b Γ h Q := by
  unfold okE
  rw [evalE]
  simp only [okO_bnd]
  congr
  funext x h
  match x with
  | .bl true => simp [onB, okO_ok]
  | .bl false => simp [onB]
  | .non => rfl
  | (.int _) => rfl
  | (.str _) => rfl
  | (.tup _) => rfl
  | (.lst _) => rfl
  | (.dct _ _) => rfl
  | (.scr _) => rfl
  | (.ref _) => rfl
theorem okE_not {a : CE} : okE T c (.not a) Γ h Q = okE T c a Γ h fun x h => onB x fun p => Q (.bl (!p)) h := by
  unfold okE
  rw [evalE]
  simp only [okO_bnd]
  congr
  funext x h
  match x with
  | .bl _ => rfl
  | .non => rfl
  | (.int _) => rfl
  | (.str _) => rfl
  | (.tup _) => rfl
  | (.lst _) => rfl
  | (.dct _ _) => rfl
  | (.scr _) => rfl
  | (.ref _) => rfl
theorem okE_ite {t a b : CE} : okE T c (.ite t a b) Γ h Q = okE T c t Γ h fun x h => onB x fun p => if p = true then okE T c a Γ h Q else okE T c b Γ h Q := by
  unfold okE
  rw [evalE]
  simp only [okO_bnd]
  congr
  funext x h
  match x with
  | .bl true => simp [onB]
  | .bl false => simp [onB]
  | .non => rfl
  | (.int _) => rfl
  | (.str _) => rfl
  | (.tup _) => rfl
  | (.lst _) => rfl
  | (.dct _ _) => rfl
  | (.scr _) => rfl
  | (.ref _) => rfl
theorem okE_isi {t : Ty} {a : CE} : okE T c (.isi t a) Γ h Q = okE T c a Γ h fun x h => onO (isiD t h x) fun b => Q (.bl b) h := by
  unfold okE
  rw [evalE]
  simp only [okO_bnd, okO_lift, onO_map]
theorem okE_b1 {f : B1} {a : CE} : okE T c (.b1 f a) Γ h Q = okE T c a Γ h fun x h => onO (b1D f h x) fun d => Q d h := by
  unfold okE
  rw [evalE]
  simp only [okO_bnd, okO_lift]
theorem okE_b2 {f : B2} {a b : CE} : okE T c (.b2 f a b) Γ h Q = okE T c a Γ h fun x h => okE T c b Γ h fun y h => onO (b2D f x y) fun d => Q d h := by
  unfold okE
  rw [evalE]
  simp only [okO_bnd, okO_lift]
theorem okE_bm {f : Bm} {a b : CE} : okE T c (.bm f a b) Γ h Q = okE T c a Γ h fun x h => okE T c b Γ h fun y h => onO (bmD f h x y) fun d => Q d h := by
  unfold okE
  rw [evalE]
  simp only [okO_bnd, okO_lift]
theorem okE_call {f : Nat} {as : List CE} : okE T c (.call f as) Γ h Q = okEs T c as Γ h fun xs h => okO (c f xs h) Q := by
  unfold okE okEs
  rw [evalE]
  simp only [okO_bnd]
theorem okE_ix {a b : CE} : okE T c (.ix a b) Γ h Q = okE T c a Γ h fun x h => okE T c b Γ h fun y h => onO (ixD h x y) fun d => Q d h := by
  unfold okE
  rw [evalE]
  simp only [okO_bnd, okO_lift]
theorem okE_sl {a lo hi : CE} : okE T c (.sl a lo hi) Γ h Q = okE T c a Γ h fun x h => okE T c lo Γ h fun l h => onO (boundC (isNo lo) l) fun l => okE T c hi Γ h fun u h => onO (boundC (isNo hi) u) fun u => onO (slI h x l u) fun d => Q d h := by
  unfold okE
  rw [evalE]
  simp only [okO_bnd]
  congr
  funext x h
  congr
  funext l h
  cases boundC (isNo lo) l with
  | none => rfl
  | some l =>
    simp only [okO_bnd, onO_some]
    congr
    funext u h
    cases boundC (isNo hi) u with
    | none => rfl
    | some u => simp only [okO_lift, onO_some]
theorem okE_tup {as : List CE} : okE T c (.tup as) Γ h Q = okEs T c as Γ h fun xs h => xs.length ≤ maxLen ∧ Q (.tup xs) h := by
  unfold okE okEs
  rw [evalE]
  simp only [okO_bnd]
  congr
  funext xs h
  by_cases hz : xs.length ≤ maxLen <;> simp [hz, okO_ok, okO_none]
theorem okE_lst {as : List CE} : okE T c (.lst as) Γ h Q = okEs T c as Γ h fun xs h => xs.length ≤ maxLen ∧ Q (.lst xs) h := by
  unfold okE okEs
  rw [evalE]
  simp only [okO_bnd]
  congr
  funext xs h
  by_cases hz : xs.length ≤ maxLen <;> simp [hz, okO_ok, okO_none]
theorem okE_dct {ks : List Key} {as : List CE} : okE T c (.dct ks as) Γ h Q = okEs T c as Γ h fun xs h => Q (.dct ks xs) h := by
  unfold okE okEs
  rw [evalE]
  simp only [okO_bnd, okO_ok]
theorem okE_new {a : CE} : okE T c (.new a) Γ h Q = okE T c a Γ h fun x h => okO (newCell h x) Q := by
  unfold okE
  rw [evalE]
  simp only [okO_bnd]
/-- a comprehension's turn -/
def lcF1 (T : Tb) (c : Call) (tg : Tg) (own : List Nat) (cond elt : CE) (Γ : List Slot) : D → List Cell → Out (Option D) := fun d h => match setTg tg d (wipeS Γ own) with
  | some Γ' => bnd (evalE T c cond Γ' h) fun b h => match b with
    | .bl true => bnd (evalE T c elt Γ' h) fun y h => some (.ok (some y) h)
    | .bl false => some (.ok none h)
    | _ => none
  | none => none
theorem okO_lcF1 {tg : Tg} {own : List Nat} {cond elt : CE} {d : D} {Q : Option D → List Cell → Prop} : okO (lcF1 T c tg own cond elt Γ d h) Q = onO (setTg tg d (wipeS Γ own)) fun Γ' => okE T c cond Γ' h fun b h => onB b fun p => if p = true then okE T c elt Γ' h fun y h => Q (some y) h else Q none h := by
  unfold lcF1
  cases setTg tg d (wipeS Γ own) with
  | none => rfl
  | some Γ' =>
    simp only [okO_bnd, onO_some]
    unfold okE
    congr
    funext x h
    match x with
    | .bl true => simp [onB, okO_bnd, okO_ok]
    | .bl false => simp [onB, okO_ok]
    | .non => rfl
    | (.int _) => rfl
    | (.str _) => rfl
    | (.tup _) => rfl
    | (.lst _) => rfl
    | (.dct _ _) => rfl
    | (.scr _) => rfl
    | (.ref _) => rfl
theorem okE_lc {k : ItK} {srcs : List CE} {tg : Tg} {own : List Nat} {cond elt : CE} : okE T c (.lc k srcs tg own cond elt) Γ h Q = okEs T c srcs Γ h fun ds h => onO (itemsOf k h ds) fun its => wipeOk Γ own = true ∧ okO (lcL (lcF1 T c tg own cond elt Γ) its h) fun ys h => ys.length ≤ maxLen ∧ Q (.lst ys) h := by
  unfold okE okEs
  rw [evalE]
  simp only [okO_bnd]
  congr
  funext ds h
  cases itemsOf k h ds with
  | none => rfl
  | some its =>
    cases hw : wipeOk Γ own with
    | false => simp [onO, okO_none]
    | true =>
      simp only [onO_some, true_and]
      show okO (bnd (calmO (lcL (lcF1 T c tg own cond elt Γ) its h)) _) Q = _
      rw [okO_bnd, okO_calm]
      congr
      funext xs h
      by_cases hz : xs.length ≤ maxLen <;> simp [hz, okO_ok, okO_none]
theorem okEs_nil : okEs T c [] Γ h QL = QL [] h := rfl
theorem okEs_cons {a : CE} {as : List CE} : okEs T c (a :: as) Γ h QL = okE T c a Γ h fun x h => okEs T c as Γ h fun xs h => QL (x :: xs) h := by
  unfold okE okEs
  rw [evalEs]
  simp only [okO_bnd, okO_ok]
theorem okE.mono {e : CE} {Q' : D → List Cell → Prop} (g : okE T c e Γ h Q) (k : ∀ d h, Q d h → Q' d h) : okE T c e Γ h Q' := okO.mono g k
/-! ### statements -/
theorem okC_asg {i : Nat} {e : CE} : okC T c (.asg i e) Γ h N R = okE T c e Γ h fun x h => N (Γ.set i (.val x)) h := by
  unfold okC okE
  rw [execS, okS_bnd]
  rfl
def onCell (x : D) (Q : Cell → Prop) : Prop := match x with
  | .lst ds => Q (.lst ds)
  | .dct ks vs => Q (.dct ks vs)
  | _ => False
theorem onCell_lst {ds : List D} {Q : Cell → Prop} : onCell (.lst ds) Q = Q (.lst ds) := rfl
theorem onCell_dct {ks : List Key} {ds : List D} {Q : Cell → Prop} : onCell (.dct ks ds) Q = Q (.dct ks ds) := rfl
theorem okC_own {i : Nat} {e : CE} : okC T c (.own i e) Γ h N R = okE T c e Γ h fun x h => onCell x fun cl => N (Γ.set i (.own cl)) h := by
  unfold okC okE
  rw [execS, okS_bnd]
  congr
  funext x h
  cases x <;> rfl
theorem okC_stIx {o i e : CE} : okC T c (.stIx o i e) Γ h N R = okE T c e Γ h fun x h => okE T c o Γ h fun y h => okE T c i Γ h fun z h => onO (stIxD h y z x) fun h => N Γ h := by
  unfold okC okE
  rw [execS]
  simp only [okS_bnd]
  congr
  funext x h
  congr
  funext y h
  congr
  funext z h
  cases stIxD h y z x <;> rfl
def onInts (x y : D) (Q : Int → Int → Prop) : Prop := match x, y with
  | .int a, .int b => Q a b
  | _, _ => False
theorem onInts_int {a b : Int} {Q : Int → Int → Prop} : onInts (.int a) (.int b) Q = Q a b := rfl
theorem okC_aug {i : Nat} {e : CE} : okC T c (.aug i e) Γ h N R = onVal Γ[i]? fun x => okE T c e Γ h fun y h => onInts x y fun a b => N (Γ.set i (.val (.int (a + b)))) h := by
  unfold okC okE
  rw [execS]
  match Γ[i]? with
  | none => rfl
  | some .no => rfl
  | some (.own _) => rfl
  | some (.val d) =>
    simp only [okS_bnd, onVal_val]
    congr
    funext y h
    cases d <;> cases y <;> rfl
theorem okC_app {i : Nat} {e : CE} : okC T c (.app i e) Γ h N R = onOwn Γ[i]? fun cl => match cl with
    | .lst ds => okE T c e Γ h fun y h => ds.length < maxLen ∧ N (Γ.set i (.own (.lst (ds ++ [y])))) h
    | _ => False := by
  unfold okC okE
  rw [execS]
  match Γ[i]? with
  | none => rfl
  | some .no => rfl
  | some (.val _) => rfl
  | some (.own (.dct _ _)) => rfl
  | some (.own (.ins _ _)) => rfl
  | some (.own (.lst ds)) =>
    simp only [okS_bnd, onOwn_own]
    congr
    funext y h
    by_cases hz : ds.length < maxLen <;> simp [hz, okS]
theorem okC_ex {e : CE} : okC T c (.ex e) Γ h N R = okE T c e Γ h fun _ h => N Γ h := by
  unfold okC okE
  rw [execS, okS_bnd]
  rfl
theorem okC_ret {e : CE} : okC T c (.ret e) Γ h N R = okE T c e Γ h R := by
  unfold okC okE
  rw [execS, okS_bnd]
  rfl
theorem okC_retN : okC T c .retN Γ h N R = R .non h := by
  unfold okC
  rw [execS]
  rfl
theorem okC_ite {t : CE} {a b : List CS} : okC T c (.ite t a b) Γ h N R = okE T c t Γ h fun x h => onB x fun p => if p = true then okCs T c a Γ h N R else okCs T c b Γ h N R := by
  unfold okC okE okCs
  rw [execS, okS_bnd]
  congr
  funext x h
  match x with
  | .bl true => simp [onB]
  | .bl false => simp [onB]
  | .non => rfl
  | (.int _) => rfl
  | (.str _) => rfl
  | (.tup _) => rfl
  | (.lst _) => rfl
  | (.dct _ _) => rfl
  | (.scr _) => rfl
  | (.ref _) => rfl
def forF (T : Tb) (c : Call) (tg : Tg) (body : List CS) : D → List Slot → List Cell → OutS := fun d Γ h => match setTg tg d Γ with
  | some Γ => execSs T c body Γ h
  | none => none
theorem okS_forF {tg : Tg} {body : List CS} {d : D} : okS (forF T c tg body d Γ h) N R = onO (setTg tg d Γ) fun Γ => okCs T c body Γ h N R := by
  unfold forF
  cases setTg tg d Γ <;> rfl
theorem okC_for {k : ItK} {srcs : List CE} {tg : Tg} {body : List CS} : okC T c (.for_ k srcs tg body) Γ h N R = okEs T c srcs Γ h fun ds h => onO (itemsOf k h ds) fun its => okS (forL (forF T c tg body) its Γ h) N R := by
  unfold okC okEs
  rw [execS, okS_bnd]
  congr
  funext ds h
  cases itemsOf k h ds <;> rfl
theorem okCs_nil : okCs T c [] Γ h N R = N Γ h := by
  unfold okCs
  rw [execSs]
  rfl
theorem okCs_cons {s : CS} {ss : List CS} : okCs T c (s :: ss) Γ h N R = okC T c s Γ h (fun Γ h => okCs T c ss Γ h N R) R := by
  unfold okCs okC
  rw [execSs, okS_then]
/-- a def's call -/
theorem ok_call {n f : Nat} {F : Fn} {ds : List D} (hf : T.fn f = some F) (hl : ds.length = F.ar) (g : okCs T (callN T n) F.body (ds.map .val ++ List.replicate (F.ns - F.ar) .no) h (fun _ h => Q .non h) Q) : okO (callN T (n + 1) f ds h) Q := by
  rw [callN, hf]
  simp only [if_pos hl]
  unfold okCs at g
  revert g
  generalize execSs T (callN T n) F.body (ds.map .val ++ List.replicate (F.ns - F.ar) .no) h = r
  intro g
  match r, g with
  | some (.nx Γ h), g => exact g
  | some (.ret d h), g => exact g
end
end DC

set_option linter.all false
set_option Elab.async false
set_option maxRecDepth 100000
set_option maxHeartbeats 4000000
namespace K81
open PySem PySem.Spec PyProof.Rows L2 DC
/-- the i-th statement of the program -/
def top (i : Nat) : Stmt := PySem.Challenge.pw_dealcourt_k81_programs_known.main.body.getD i (.Pass ⟨0, 0, 0, 0⟩)
/-- is_key -/
def b0 : List CS := [.ret (.and (.isi .str (.v 0)) (.and (.chain .le .le (.c (.int 1)) (.b1 .len (.v 0)) (.g 1)) (.b1 .all (.lc .text [(.v 0)] (.one 1) [1] (.c (.bl true)) (.cmp .isin (.v 1) (.g 0))))))]
def d0 : FD := ⟨"is_key", top 3, ["thing", "sign"], ["thing"], b0⟩
/-- is_label -/
def b1 : List CS := [.ret (.and (.call 0 [(.v 0)]) (.cmp .notin (.v 0) (.g 2)))]
def d1 : FD := ⟨"is_label", top 13, ["thing"], ["thing"], b1⟩
/-- is_value -/
def b2 : List CS := [.ret (.and (.isi .int (.v 0)) (.and (.not (.isi .bool (.v 0))) (.chain .le .lt (.c (.int 0)) (.v 0) (.g 3))))]
def d2 : FD := ⟨"is_value", top 14, ["thing"], ["thing"], b2⟩
/-- is_sum -/
def b3 : List CS := [.ite (.or (.not (.isi .tuple (.v 0))) (.cmp .lt (.v 1) (.c (.int 1)))) [.ret (.c (.bl false))] [],
    .ite (.cmp .eq (.b1 .len (.v 0)) (.c (.int 2))) [.ret (.or (.and (.cmp .eq (.ix (.v 0) (.c (.int 0))) (.c (.str "number"))) (.call 2 [(.ix (.v 0) (.c (.int 1)))])) (.and (.cmp .eq (.ix (.v 0) (.c (.int 0))) (.c (.str "box"))) (.call 1 [(.ix (.v 0) (.c (.int 1)))])))] [],
    .ret (.and (.cmp .eq (.b1 .len (.v 0)) (.c (.int 3))) (.and (.cmp .isin (.ix (.v 0) (.c (.int 0))) (.g 4)) (.and (.call 3 [(.ix (.v 0) (.c (.int 1))), (.bin .sub (.v 1) (.c (.int 1)))]) (.call 3 [(.ix (.v 0) (.c (.int 2))), (.bin .sub (.v 1) (.c (.int 1)))]))))]
def d3 : FD := ⟨"is_sum", top 15, ["thing", "left"], ["thing", "left"], b3⟩
/-- is_line -/
def b4 : List CS := [.ite (.not (.isi .tuple (.v 0))) [.ret (.c (.bl false))] [],
    .ite (.cmp .eq (.b1 .len (.v 0)) (.c (.int 3))) [.ite (.cmp .eq (.ix (.v 0) (.c (.int 0))) (.c (.str "get"))) [.ret (.and (.call 1 [(.ix (.v 0) (.c (.int 1)))]) (.call 1 [(.ix (.v 0) (.c (.int 2)))]))] [],
    .ret (.and (.cmp .isin (.ix (.v 0) (.c (.int 0))) (.tup [(.c (.str "put")), (.c (.str "let"))])) (.and (.call 1 [(.ix (.v 0) (.c (.int 1)))]) (.call 3 [(.ix (.v 0) (.c (.int 2))), (.g 5)])))] [],
    .ite (.cmp .eq (.b1 .len (.v 0)) (.c (.int 4))) [.asg 2 (.and (.cmp .eq (.ix (.v 0) (.c (.int 0))) (.c (.str "if"))) (.and (.cmp .lt (.v 1) (.g 6)) (.call 3 [(.ix (.v 0) (.c (.int 1))), (.g 5)]))),
    .ret (.and (.v 2) (.and (.call 5 [(.ix (.v 0) (.c (.int 2))), (.bin .add (.v 1) (.c (.int 1)))]) (.call 5 [(.ix (.v 0) (.c (.int 3))), (.bin .add (.v 1) (.c (.int 1)))])))] [],
    .ret (.cmp .isin (.v 0) (.g 7))]
def d4 : FD := ⟨"is_line", top 16, ["thing", "ifs", "good"], ["thing", "ifs"], b4⟩
/-- are_lines -/
def b5 : List CS := [.ite (.or (.not (.isi .tuple (.v 0))) (.not (.b1 .all (.lc .seq [(.v 0)] (.one 2) [2] (.c (.bl true)) (.call 4 [(.v 2), (.v 1)]))))) [.ret (.c (.bl false))] [],
    .ret (.b1 .all (.lc .seq [(.sl (.v 0) .no (.neg (.c (.int 1))))] (.one 2) [2] (.c (.bl true)) (.cmp .notin (.v 2) (.g 7))))]
def d5 : FD := ⟨"are_lines", top 17, ["thing", "ifs", "one"], ["thing", "ifs"], b5⟩
/-- count_lines -/
def b6 : List CS := [.asg 1 (.b1 .len (.v 0)),
    .for_ .seq [(.v 0)] (.one 2) [.ite (.cmp .eq (.ix (.v 2) (.c (.int 0))) (.c (.str "if"))) [.aug 1 (.bin .add (.call 6 [(.ix (.v 2) (.c (.int 2)))]) (.call 6 [(.ix (.v 2) (.c (.int 3)))]))] []],
    .ret (.v 1)]
def d6 : FD := ⟨"count_lines", top 18, ["lines", "found", "line"], ["lines"], b6⟩
/-- count_asked -/
def b7 : List CS := [.asg 1 (.c (.int 0)),
    .for_ .seq [(.v 0)] (.one 2) [.ite (.cmp .eq (.ix (.v 2) (.c (.int 0))) (.c (.str "if"))) [.aug 1 (.bin .add (.call 7 [(.ix (.v 2) (.c (.int 2)))]) (.call 7 [(.ix (.v 2) (.c (.int 3)))]))] [.ite (.cmp .isin (.ix (.v 2) (.c (.int 0))) (.tup [(.c (.str "get")), (.c (.str "put"))])) [.aug 1 (.c (.int 1))] []]],
    .ret (.v 1)]
def d7 : FD := ⟨"count_asked", top 19, ["lines", "found", "line"], ["lines"], b7⟩
/-- is_program -/
def b8 : List CS := [.ite (.not (.call 5 [(.v 0), (.c (.int 0))])) [.ret (.c (.bl false))] [],
    .ret (.and (.chain .le .le (.c (.int 1)) (.call 6 [(.v 0)]) (.g 9)) (.cmp .le (.call 7 [(.v 0)]) (.g 8)))]
def d8 : FD := ⟨"is_program", top 20, ["thing"], ["thing"], b8⟩
/-- _law_state -/
def b9 : List CS := [.asg 2 (.bin .add (.c (.int 1)) (.bin .mul (.c (.int 2)) (.v 1))),
    .ite (.cmp .gt (.b1 .len (.v 0)) (.c (.int 0))) [.asg 2 (.bin .add (.ix (.v 0) (.bin .mod (.v 1) (.b1 .len (.v 0)))) (.bin .mul (.c (.int 2)) (.bin .fdiv (.v 1) (.b1 .len (.v 0)))))] [],
    .asg 3 (.bin .fdiv (.b1 .abs (.v 2)) (.c (.int 2))),
    .ite (.cmp .eq (.bin .mod (.v 2) (.c (.int 2))) (.c (.int 1))) [.asg 3 (.bin .mod (.bin .add (.bin .add (.bin .add (.bin .mul (.bin .mod (.v 3) (.c (.int 2147483647))) (.c (.int 48271))) (.bin .mul (.c (.int 7919)) (.v 1))) (.b1 .len (.v 0))) (.c (.int 11))) (.c (.int 2147483647)))] [],
    .ret (.new (.lst [(.bin .mod (.v 2) (.c (.int 2))), (.v 3), (.bin .add (.v 1) (.c (.int 1)))]))]
def d9 : FD := ⟨"_law_state", top 22, ["_law_script", "_law_k", "_law_cell", "_law_start"], ["_law_script", "_law_k"], b9⟩
/-- _law_next -/
def b10 : List CS := [.ite (.cmp .eq (.ix (.v 0) (.c (.int 0))) (.c (.int 0))) [.asg 3 (.bin .mod (.ix (.v 0) (.c (.int 1))) (.v 1)),
    .stIx (.v 0) (.c (.int 1)) (.bin .fdiv (.ix (.v 0) (.c (.int 1))) (.v 1)),
    .ret (.v 3)] [],
    .stIx (.v 0) (.c (.int 1)) (.bin .mod (.bin .add (.bin .mul (.ix (.v 0) (.c (.int 1))) (.c (.int 48271))) (.ix (.v 0) (.c (.int 2)))) (.c (.int 2147483647))),
    .asg 2 (.bin .mod (.bin .mul (.ix (.v 0) (.c (.int 1))) (.ix (.v 0) (.c (.int 1)))) (.c (.int 2147483629))),
    .ret (.bin .mod (.bin .fdiv (.bin .mod (.bin .mul (.v 2) (.v 2)) (.c (.int 2147483587))) (.c (.int 7))) (.v 1))]
def d10 : FD := ⟨"_law_next", top 23, ["_law_state_here", "_law_size", "_law_mixed", "_law_digit"], ["_law_state_here", "_law_size"], b10⟩
/-- _law_keys -/
def b11 : List CS := [.asg 2 (.c (.str "abcdefghijklmnopqrstuvwxyz")),
    .asg 3 (.call 10 [(.v 0), (.c (.int 26))]),
    .ite (.and (.cmp .eq (.call 10 [(.v 0), (.c (.int 4))]) (.c (.int 0))) (.cmp .lt (.v 1) (.c (.int 5)))) [.ret (.lc .range1 [(.v 1)] (.one 7) [7] (.c (.bl true)) (.bin .mul (.ix (.v 2) (.v 3)) (.bin .add (.c (.int 1)) (.v 7))))] [],
    .asg 4 (.bin .add (.c (.int 1)) (.call 10 [(.v 0), (.c (.int 4))])),
    .asg 5 (.call 10 [(.v 0), (.v 4)]),
    .asg 6 (.bm .join (.c (.str "")) (.lc .range1 [(.v 4)] (.one 7) [7] (.c (.bl true)) (.ix (.v 2) (.bin .mod (.bin .add (.v 3) (.bin .mul (.c (.int 7)) (.v 7))) (.c (.int 26)))))),
    .ret (.lc .range1 [(.v 1)] (.one 7) [7] (.c (.bl true)) (.bin .add (.bin .add (.sl (.v 6) .no (.v 5)) (.ix (.v 2) (.bin .mod (.bin .add (.bin .add (.v 3) (.c (.int 5))) (.bin .mul (.c (.int 3)) (.v 7))) (.c (.int 26))))) (.sl (.v 6) (.bin .add (.v 5) (.c (.int 1))) .no)))]
def d11 : FD := ⟨"_law_keys", top 24, ["_law_state_here", "_law_size", "_law_letters", "_law_shift", "_law_long", "_law_place", "_law_base", "_law_k"], ["_law_state_here", "_law_size"], b11⟩
/-- _law_sum -/
def b12 : List CS := [.asg 3 (.call 10 [(.v 0), (.c (.int 6))]),
    .ite (.or (.cmp .eq (.v 2) (.c (.int 1))) (.cmp .lt (.v 3) (.c (.int 4)))) [.ite (.cmp .eq (.bin .mod (.v 3) (.c (.int 2))) (.c (.int 0))) [.ret (.tup [(.c (.str "box")), (.ix (.v 1) (.call 10 [(.v 0), (.b1 .len (.v 1))]))])] [],
    .ret (.tup [(.c (.str "number")), (.ix (.lst [(.call 10 [(.v 0), (.c (.int 4))]), (.call 10 [(.v 0), (.c (.int 1000))]), (.c (.int 999))]) (.call 10 [(.v 0), (.c (.int 3))]))])] [],
    .asg 4 (.ix (.lst [(.c (.str "+")), (.c (.str "-")), (.c (.str "*")), (.c (.str "<")), (.c (.str "="))]) (.call 10 [(.v 0), (.c (.int 5))])),
    .asg 5 (.call 12 [(.v 0), (.v 1), (.bin .sub (.v 2) (.c (.int 1)))]),
    .ret (.tup [(.v 4), (.v 5), (.call 12 [(.v 0), (.v 1), (.bin .sub (.v 2) (.c (.int 1)))])])]
def d12 : FD := ⟨"_law_sum", top 25, ["_law_state_here", "_law_names", "_law_deep", "_law_way", "_law_sign", "_law_one"], ["_law_state_here", "_law_names", "_law_deep"], b12⟩
/-- _law_line -/
def b13 : List CS := [.stIx (.v 2) (.c (.str "lines")) (.bin .sub (.ix (.v 2) (.c (.str "lines"))) (.c (.int 1))),
    .asg 4 (.call 10 [(.v 0), (.c (.int 8))]),
    .ite (.and (.cmp .gt (.v 4) (.c (.int 5))) (.cmp .lt (.v 3) (.c (.int 3)))) [.asg 6 (.call 14 [(.v 0), (.v 1), (.v 2), (.bin .add (.v 3) (.c (.int 1))), (.c (.int 5))]),
    .ret (.tup [(.c (.str "if")), (.call 12 [(.v 0), (.v 1), (.c (.int 4))]), (.v 6), (.call 14 [(.v 0), (.v 1), (.v 2), (.bin .add (.v 3) (.c (.int 1))), (.c (.int 4))])])] [],
    .asg 5 (.ix (.v 1) (.call 10 [(.v 0), (.b1 .len (.v 1))])),
    .ite (.or (.cmp .eq (.v 4) (.c (.int 5))) (.or (.cmp .gt (.v 4) (.c (.int 5))) (.cmp .eq (.ix (.v 2) (.c (.str "asks"))) (.c (.int 0))))) [.ret (.tup [(.c (.str "let")), (.v 5), (.call 12 [(.v 0), (.v 1), (.c (.int 4))])])] [],
    .stIx (.v 2) (.c (.str "asks")) (.bin .sub (.ix (.v 2) (.c (.str "asks"))) (.c (.int 1))),
    .ite (.cmp .lt (.v 4) (.c (.int 3))) [.ret (.tup [(.c (.str "get")), (.v 5), (.ix (.v 1) (.call 10 [(.v 0), (.b1 .len (.v 1))]))])] [],
    .ret (.tup [(.c (.str "put")), (.v 5), (.call 12 [(.v 0), (.v 1), (.c (.int 4))])])]
def d13 : FD := ⟨"_law_line", top 26, ["_law_state_here", "_law_names", "_law_room", "_law_ifs", "_law_way", "_law_name", "_law_one"], ["_law_state_here", "_law_names", "_law_room", "_law_ifs"], b13⟩
/-- _law_lines -/
def b14 : List CS := [.own 5 (.lst []),
    .for_ .range1 [(.call 10 [(.v 0), (.v 4)])] (.one 6) [.ite (.cmp .gt (.ix (.v 2) (.c (.str "lines"))) (.c (.int 0))) [.app 5 (.call 13 [(.v 0), (.v 1), (.v 2), (.v 3)])] []],
    .ite (.and (.cmp .gt (.ix (.v 2) (.c (.str "lines"))) (.c (.int 0))) (.cmp .eq (.call 10 [(.v 0), (.c (.int 6))]) (.c (.int 0)))) [.stIx (.v 2) (.c (.str "lines")) (.bin .sub (.ix (.v 2) (.c (.str "lines"))) (.c (.int 1))),
    .app 5 (.ix (.lst [(.tup [(.c (.str "end"))]), (.tup [(.c (.str "drop"))])]) (.call 10 [(.v 0), (.c (.int 2))]))] [],
    .ret (.b1 .tuple (.pk 5))]
def d14 : FD := ⟨"_law_lines", top 27, ["_law_state_here", "_law_names", "_law_room", "_law_ifs", "_law_most", "_law_lines_here", "_law_k"], ["_law_state_here", "_law_names", "_law_room", "_law_ifs", "_law_most"], b14⟩
/-- _law_program -/
def b15 : List CS := [.asg 2 (.new (.dct [(.inr "lines"), (.inr "asks")] [(.c (.int 16)), (.c (.int 8))])),
    .asg 3 (.call 14 [(.v 0), (.v 1), (.v 2), (.c (.int 0)), (.c (.int 17))]),
    .ite (.cmp .eq (.v 3) (.tup [])) [.ret (.tup [(.tup [(.c (.str "put")), (.ix (.v 1) (.c (.int 0))), (.tup [(.c (.str "number")), (.c (.int 1))])])])] [],
    .ret (.v 3)]
def d15 : FD := ⟨"_law_program", top 28, ["_law_state_here", "_law_names", "_law_room", "_law_lines_here"], ["_law_state_here", "_law_names"], b15⟩
/-- _law_is_label -/
def b16 : List CS := [.ite (.or (.not (.isi .str (.v 0))) (.not (.chain .lt .lt (.c (.int 0)) (.b1 .len (.v 0)) (.c (.int 5))))) [.ret (.c (.bl false))] [],
    .ite (.cmp .isin (.v 0) (.lst [(.c (.str "get")), (.c (.str "put")), (.c (.str "let")), (.c (.str "if")), (.c (.str "else")), (.c (.str "fi")), (.c (.str "end")), (.c (.str "drop"))])) [.ret (.c (.bl false))] [],
    .ret (.cmp .eq (.lc .text [(.v 0)] (.one 1) [1] (.cmp .notin (.v 1) (.c (.str "abcdefghijklmnopqrstuvwxyz"))) (.v 1)) (.lst []))]
def d16 : FD := ⟨"_law_is_label", top 29, ["_law_thing", "_law_sign"], ["_law_thing"], b16⟩
/-- _law_sum_deep -/
def b17 : List CS := [.ite (.or (.not (.isi .tuple (.v 0))) (.cmp .notin (.b1 .len (.v 0)) (.lst [(.c (.int 2)), (.c (.int 3))]))) [.ret (.c (.int 0))] [],
    .ite (.and (.cmp .eq (.b1 .len (.v 0)) (.c (.int 2))) (.cmp .eq (.ix (.v 0) (.c (.int 0))) (.c (.str "number")))) [.ret (.b1 .int (.and (.isi .int (.ix (.v 0) (.c (.int 1)))) (.and (.not (.isi .bool (.ix (.v 0) (.c (.int 1))))) (.and (.cmp .le (.c (.int 0)) (.ix (.v 0) (.c (.int 1)))) (.cmp .lt (.ix (.v 0) (.c (.int 1))) (.c (.int 1000)))))))] [],
    .ite (.cmp .eq (.b1 .len (.v 0)) (.c (.int 2))) [.ret (.b1 .int (.and (.cmp .eq (.ix (.v 0) (.c (.int 0))) (.c (.str "box"))) (.call 16 [(.ix (.v 0) (.c (.int 1)))])))] [],
    .asg 1 (.lst [(.call 17 [(.ix (.v 0) (.c (.int 1)))]), (.call 17 [(.ix (.v 0) (.c (.int 2)))])]),
    .ite (.or (.cmp .notin (.ix (.v 0) (.c (.int 0))) (.lst [(.c (.str "+")), (.c (.str "-")), (.c (.str "*")), (.c (.str "<")), (.c (.str "="))])) (.cmp .isin (.c (.int 0)) (.v 1))) [.ret (.c (.int 0))] [],
    .ret (.bin .add (.c (.int 1)) (.b1 .max (.v 1)))]
def d17 : FD := ⟨"_law_sum_deep", top 30, ["_law_thing", "_law_some"], ["_law_thing"], b17⟩
/-- _law_is_sum -/
def b18 : List CS := [.ret (.and (.cmp .lt (.c (.int 0)) (.call 17 [(.v 0)])) (.cmp .lt (.call 17 [(.v 0)]) (.c (.int 5))))]
def d18 : FD := ⟨"_law_is_sum", top 31, ["_law_thing"], ["_law_thing"], b18⟩
/-- _law_counted -/
def b19 : List CS := [.ite (.not (.isi .tuple (.v 0))) [.ret (.c .non)] [],
    .asg 2 (.lst [(.c (.int 0)), (.c (.int 0))]),
    .for_ .enum [(.v 0)] (.tup [3, 4]) [.ite (.or (.not (.isi .tuple (.v 4))) (.cmp .eq (.v 4) (.tup []))) [.ret (.c .non)] [],
    .asg 5 (.lst [(.c (.int 1)), (.b1 .int (.cmp .isin (.ix (.v 4) (.c (.int 0))) (.lst [(.c (.str "get")), (.c (.str "put"))])))]),
    .asg 6 (.and (.cmp .isin (.v 4) (.lst [(.tup [(.c (.str "end"))]), (.tup [(.c (.str "drop"))])])) (.cmp .eq (.v 3) (.bin .sub (.b1 .len (.v 0)) (.c (.int 1))))),
    .ite (.cmp .eq (.b1 .len (.v 4)) (.c (.int 3))) [.asg 6 (.and (.cmp .eq (.ix (.v 4) (.c (.int 0))) (.c (.str "get"))) (.and (.call 16 [(.ix (.v 4) (.c (.int 1)))]) (.call 16 [(.ix (.v 4) (.c (.int 2)))]))),
    .asg 6 (.or (.v 6) (.and (.cmp .isin (.ix (.v 4) (.c (.int 0))) (.lst [(.c (.str "put")), (.c (.str "let"))])) (.and (.call 16 [(.ix (.v 4) (.c (.int 1)))]) (.call 18 [(.ix (.v 4) (.c (.int 2)))]))))] [],
    .ite (.cmp .eq (.b1 .len (.v 4)) (.c (.int 4))) [.asg 7 (.lst [(.call 19 [(.ix (.v 4) (.c (.int 2))), (.bin .add (.v 1) (.c (.int 1)))]), (.call 19 [(.ix (.v 4) (.c (.int 3))), (.bin .add (.v 1) (.c (.int 1)))])]),
    .asg 6 (.and (.cmp .eq (.ix (.v 4) (.c (.int 0))) (.c (.str "if"))) (.and (.cmp .lt (.v 1) (.c (.int 3))) (.and (.call 18 [(.ix (.v 4) (.c (.int 1)))]) (.cmp .notin (.c .non) (.v 7))))),
    .ite (.v 6) [.asg 5 (.lst [(.bin .add (.bin .add (.c (.int 1)) (.ix (.ix (.v 7) (.c (.int 0))) (.c (.int 0)))) (.ix (.ix (.v 7) (.c (.int 1))) (.c (.int 0)))), (.bin .add (.ix (.ix (.v 7) (.c (.int 0))) (.c (.int 1))) (.ix (.ix (.v 7) (.c (.int 1))) (.c (.int 1))))])] []] [],
    .ite (.not (.v 6)) [.ret (.c .non)] [],
    .asg 2 (.lst [(.bin .add (.ix (.v 2) (.c (.int 0))) (.ix (.v 5) (.c (.int 0)))), (.bin .add (.ix (.v 2) (.c (.int 1))) (.ix (.v 5) (.c (.int 1))))])],
    .ret (.v 2)]
def d19 : FD := ⟨"_law_counted", top 32, ["_law_lines_here", "_law_ifs", "_law_found", "_law_k", "_law_line_here", "_law_more", "_law_good", "_law_sides"], ["_law_lines_here", "_law_ifs"], b19⟩
/-- _law_is_program -/
def b20 : List CS := [.asg 1 (.call 19 [(.v 0), (.c (.int 0))]),
    .ret (.and (.cmp .notN (.v 1) (.c .non)) (.and (.cmp .lt (.c (.int 0)) (.ix (.v 1) (.c (.int 0)))) (.and (.cmp .lt (.ix (.v 1) (.c (.int 0))) (.c (.int 17))) (.cmp .lt (.ix (.v 1) (.c (.int 1))) (.c (.int 9))))))]
def d20 : FD := ⟨"_law_is_program", top 33, ["_law_thing", "_law_found"], ["_law_thing"], b20⟩
/-- _law_things -/
def b21 : List CS := [.asg 0 (.lst [(.c .non), (.c (.bl true)), (.c (.int 0)), (.c (.int 5)), (.neg (.c (.int 1))), (.c (.int 1000)), (.c (.int 999)), (.c (.str "")), (.c (.str "x")), (.c (.str "abcd")), (.c (.str "abcde")), (.c (.str "A")), (.c (.str "x1")), (.c (.str "get")), (.c (.str "put")), (.c (.str "let")), (.c (.str "if")), (.c (.str "else"))]),
    .asg 0 (.bin .add (.v 0) (.lst [(.c (.str "fi")), (.c (.str "end")), (.c (.str "drop")), (.c (.str "+")), (.c (.str "-")), (.c (.str "/")), (.tup []), (.lst []), (.dct [] []), (.tup [(.c (.str "end"))]), (.tup [(.c (.str "drop"))]), (.lst [(.c (.str "end"))]), (.tup [(.c (.str "end")), (.c (.int 1))])])),
    .asg 0 (.bin .add (.v 0) (.lst [(.tup [(.c (.str "number")), (.c (.int 5))]), (.tup [(.c (.str "number")), (.c (.int 1000))]), (.tup [(.c (.str "number")), (.c (.bl true))]), (.tup [(.c (.str "box")), (.c (.str "x"))]), (.tup [(.c (.str "box")), (.c (.str "if"))]), (.tup [(.c (.str "number"))])])),
    .asg 0 (.bin .add (.v 0) (.lst [(.tup [(.c (.str "+")), (.tup [(.c (.str "number")), (.c (.int 1))])]), (.tup [(.c (.str "get")), (.c (.str "x")), (.c (.str "k"))]), (.tup [(.c (.str "*")), (.tup [(.c (.str "number")), (.c (.int 1))]), (.tup [(.c (.str "box")), (.c (.str "x"))])])])),
    .asg 0 (.bin .add (.v 0) (.lst [(.tup [(.c (.str "if")), (.tup [(.c (.str "number")), (.c (.int 1))]), (.tup []), (.tup [])]), (.tup [(.c (.str "if")), (.tup [(.c (.str "number")), (.c (.int 1))]), (.lst []), (.tup [])]), (.tup [(.c (.str "let")), (.c (.str "x")), (.tup [(.c (.str "number")), (.c (.int 1))])])])),
    .ret (.bin .add (.v 0) (.lst [(.tup [(.c (.str "get")), (.c (.str "x"))]), (.tup [(.c (.str "put")), (.c (.str "k")), (.tup [(.c (.str "number")), (.c (.int 0))]), (.c (.int 1))]), (.tup [(.tup [(.c (.str "end"))])]), (.tup [(.tup [(.c (.str "let")), (.c (.str "x"))])])]))]
def d21 : FD := ⟨"_law_things", top 34, ["_law_some"], [], b21⟩
/-- _law_bent -/
def b22 : List CS := [.ite (.or (.cmp .eq (.v 2) (.c (.int 0))) (.or (.not (.isi .tuple (.v 1))) (.cmp .eq (.v 1) (.tup [])))) [.asg 5 (.call 21 []),
    .ret (.ix (.v 5) (.call 10 [(.v 0), (.b1 .len (.v 5))]))] [],
    .asg 3 (.call 10 [(.v 0), (.b1 .len (.v 1))]),
    .asg 4 (.call 10 [(.v 0), (.c (.int 6))]),
    .ite (.cmp .eq (.v 4) (.c (.int 0))) [.ret (.bin .add (.sl (.v 1) .no (.v 3)) (.sl (.v 1) (.bin .add (.v 3) (.c (.int 1))) .no))] [],
    .ite (.cmp .eq (.v 4) (.c (.int 1))) [.ret (.bin .add (.bin .add (.sl (.v 1) .no (.v 3)) (.tup [(.ix (.v 1) (.v 3))])) (.sl (.v 1) (.v 3) .no))] [],
    .ret (.bin .add (.bin .add (.sl (.v 1) .no (.v 3)) (.tup [(.call 22 [(.v 0), (.ix (.v 1) (.v 3)), (.bin .sub (.v 2) (.c (.int 1)))])])) (.sl (.v 1) (.bin .add (.v 3) (.c (.int 1))) .no))]
def d22 : FD := ⟨"_law_bent", top 35, ["_law_state_here", "_law_thing", "_law_left", "_law_at", "_law_way", "_law_some"], ["_law_state_here", "_law_thing", "_law_left"], b22⟩
/-- law -/
def b23 : List CS := [.for_ .range1 [(.b2 .max (.c (.int 1)) (.b2 .min (.c (.int 63)) (.b1 .len (.v 0))))] (.one 1) [.asg 3 (.call 9 [(.v 0), (.v 1)]),
    .asg 4 (.call 11 [(.v 3), (.bin .add (.c (.int 1)) (.call 10 [(.v 3), (.c (.int 5))]))]),
    .asg 5 (.call 15 [(.v 3), (.v 4)]),
    .asg 6 (.call 22 [(.v 3), (.v 5), (.bin .add (.c (.int 1)) (.call 10 [(.v 3), (.c (.int 6))]))]),
    .for_ .seq [(.tup [(.v 5), (.v 6), (.b1 .list (.v 5)), (.bin .mul (.sl (.v 5) .no (.c (.int 1))) (.bin .add (.c (.int 1)) (.call 10 [(.v 3), (.c (.int 20))]))), (.v 6)])] (.one 7) [.asg 8 (.call 8 [(.v 7)]),
    .ite (.or (.not (.isi .bool (.v 8))) (.cmp .ne (.v 8) (.call 20 [(.v 7)]))) [.ret (.c (.bl false))] []],
    .ite (.not (.call 8 [(.v 5)])) [.ret (.c (.bl false))] []],
    .asg 2 (.tup [(.tup [(.c (.str "end"))])]),
    .for_ .range2 [(.c (.int 1)), (.c (.int 5))] (.one 1) [.asg 2 (.tup [(.tup [(.c (.str "if")), (.tup [(.c (.str "number")), (.v 1)]), (.ix (.lst [(.v 2), (.tup [])]) (.bin .mod (.v 1) (.c (.int 2)))), (.ix (.lst [(.tup []), (.v 2)]) (.bin .mod (.v 1) (.c (.int 2))))])]),
    .ite (.cmp .ne (.call 8 [(.v 2)]) (.cmp .lt (.v 1) (.c (.int 4)))) [.ret (.c (.bl false))] []],
    .ret (.and (.call 8 [(.tup [(.tup [(.c (.str "end"))])])]) (.not (.call 8 [(.tup [])])))]
def d23 : FD := ⟨"law", top 36, ["_law_script", "_law_k", "_law_lines_here", "_law_state_here", "_law_names", "_law_program_here", "_law_bent_here", "_law_thing", "_law_told"], ["_law_script"], b23⟩
def tab : List FD := [d0, d1, d2, d3, d4, d5, d6, d7, d8, d9, d10, d11, d12, d13, d14, d15, d16, d17, d18, d19, d20, d21, d22, d23]
def gt : GT := [("LETTERS", (.str "abcdefghijklmnopqrstuvwxyz")),
  ("MOST_LETTERS", (.int 4)),
  ("KEPT_WORDS", (.tup [(.str "get"), (.str "put"), (.str "let"), (.str "if"), (.str "else"), (.str "fi"), (.str "end"), (.str "drop")])),
  ("VALUES", (.int 1000)),
  ("SIGNS", (.tup [(.str "+"), (.str "-"), (.str "*"), (.str "<"), (.str "=")])),
  ("DEEPEST", (.int 4)),
  ("MOST_IFS", (.int 3)),
  ("LAST_ONES", (.tup [(.tup [(.str "end")]), (.tup [(.str "drop")])])),
  ("MOST_ASKED", (.int 8)),
  ("MOST_LINES", (.int 16))]
abbrev T : Tb := mkT tab gt
end K81

set_option linter.all false
set_option Elab.async false
set_option maxRecDepth 100000
set_option maxHeartbeats 4000000
namespace K81
open PySem DC
theorem G0 : T.glob 0 = some (.str "abcdefghijklmnopqrstuvwxyz") := rfl
theorem G1 : T.glob 1 = some (.int 4) := rfl
theorem G2 : T.glob 2 = some (.tup [(.str "get"), (.str "put"), (.str "let"), (.str "if"), (.str "else"), (.str "fi"), (.str "end"), (.str "drop")]) := rfl
theorem G3 : T.glob 3 = some (.int 1000) := rfl
theorem G4 : T.glob 4 = some (.tup [(.str "+"), (.str "-"), (.str "*"), (.str "<"), (.str "=")]) := rfl
theorem G5 : T.glob 5 = some (.int 4) := rfl
theorem G6 : T.glob 6 = some (.int 3) := rfl
theorem G7 : T.glob 7 = some (.tup [(.tup [(.str "end")]), (.tup [(.str "drop")])]) := rfl
theorem G8 : T.glob 8 = some (.int 8) := rfl
theorem G9 : T.glob 9 = some (.int 16) := rfl
abbrev letters : List Nat := ("abcdefghijklmnopqrstuvwxyz" : Str).cps.toList
/-- neither an object that changes nor the script -/
def plain1 : D → Bool
  | .ref _ => false
  | .scr _ => false
  | _ => true
def keyS (z : Str) : Bool := decide (1 ≤ z.length) && decide (z.length ≤ 4) && z.cps.toList.all fun c => decide (c ∈ letters)
def keyB : D → Bool
  | .str z => keyS z
  | _ => false
theorem bls_map {α : Type} {g : α → Bool} : ∀ {l : List α}, blsOf (l.map fun x => .bl (g x)) = some (l.map g)
  | [] => rfl
  | a :: l => by simp [blsOf, bls_map]
theorem is_key (d : D) (hd : plain1 d = true) (m : Nat) (h : List Cell) : callN T (m + 1) 0 [d] h = some (.ok (.bl (keyB d)) h) := by
  refine ok_eq (ok_call (F := ⟨1, 2, b0⟩) rfl rfl ?_)
  show okCs T (callN T m) b0 [.val d, .no] h _ _
  cases d with
  | str z =>
    have hl : z.length = z.cps.toList.length := by simp [Str.length]
    simp (decide := true) only [b0, okCs_nil, okCs_cons, okC_asg, okC_own, okC_stIx, okC_aug, okC_app, okC_ex, okC_ret, okC_retN, okC_ite, okC_for, okE_c, okE_no, okE_v, okE_pk, okE_g, okE_bin, okE_neg, okE_cmp, okE_chain, okE_and, okE_or, okE_not, okE_ite, okE_isi, okE_b1, okE_b2, okE_bm, okE_call, okE_ix, okE_sl, okE_tup, okE_lst, okE_dct, okE_new, okE_lc, okEs_nil, okEs_cons, onVal_val, onOwn_own, onO_some, onO_none, onO_map, onB_bl, onCell_lst, onCell_dct, onInts_int, okO_ok, List.getElem?_cons_zero, List.getElem?_cons_succ, List.set_cons_zero, List.set_cons_succ, isNo, boundC, G0, G1, isiD, b1D, cmpD, itemsOf]
    by_cases h1 : 1 ≤ z.length
    · by_cases h2 : z.length ≤ 4
      · have e : lcL (lcF1 T (callN T m) (.one 1) [1] (.c (.bl true)) (.cmp .isin (.v 1) (.g 0)) [.val (.str z), .no]) (z.cps.toList.map fun c => .str ⟨#[c]⟩) h = some (.ok (z.cps.toList.map fun c => .bl (decide (c ∈ letters))) h) := by
          have := lc_pure (f := lcF1 T (callN T m) (.one 1) [1] (.c (.bl true)) (.cmp .isin (.v 1) (.g 0)) [.val (.str z), .no]) (h := h) (ds := z.cps.toList.map fun c => .str ⟨#[c]⟩) (g := fun d => match d with | .str y => .bl (y.cps.toList.all fun c => decide (c ∈ letters)) | d => d) (fun d hd => by
            obtain ⟨c, hc, rfl⟩ := List.mem_map.mp hd
            rw [okO_lcF1]
            simp (decide := true) [okCs_nil, okCs_cons, okC_asg, okC_own, okC_stIx, okC_aug, okC_app, okC_ex, okC_ret, okC_retN, okC_ite, okC_for, okE_c, okE_no, okE_v, okE_pk, okE_g, okE_bin, okE_neg, okE_cmp, okE_chain, okE_and, okE_or, okE_not, okE_ite, okE_isi, okE_b1, okE_b2, okE_bm, okE_call, okE_ix, okE_sl, okE_tup, okE_lst, okE_dct, okE_new, okE_lc, okEs_nil, okEs_cons, onVal_val, onOwn_own, onO_some, onO_none, onO_map, onB_bl, onCell_lst, onCell_dct, onInts_int, okO_ok, List.getElem?_cons_zero, List.getElem?_cons_succ, List.set_cons_zero, List.set_cons_succ, isNo, boundC, G0, setTg, wipeS, cmpD, inH])
          rw [this, List.map_map]
          simp [Function.comp_def]
        rw [e]
        have h3 : (1 : Int) ≤ (z.length : Int) := by omega
        have h4 : (z.length : Int) ≤ 4 := by omega
        have h5 : z.cps.toList.length ≤ maxLen := by rw [← hl]; show _ ≤ 16777216; omega
        simp (decide := true) [h3, h4, okO_ok, wipeOk, onO, lstOf, bls_map, keyB, keyS, h1, h2]
        exact h5
      · have h4 : ¬ (z.length : Int) ≤ 4 := by omega
        have h3 : (1 : Int) ≤ (z.length : Int) := by omega
        simp (decide := true) [h3, h4, keyB, keyS, h1, h2]
    · have h3 : ¬ (1 : Int) ≤ (z.length : Int) := by omega
      simp (decide := true) [h3, keyB, keyS, h1]
  | ref _ => cases hd
  | scr _ => cases hd
  | _ => simp (decide := true) [b0, okCs_nil, okCs_cons, okC_asg, okC_own, okC_stIx, okC_aug, okC_app, okC_ex, okC_ret, okC_retN, okC_ite, okC_for, okE_c, okE_no, okE_v, okE_pk, okE_g, okE_bin, okE_neg, okE_cmp, okE_chain, okE_and, okE_or, okE_not, okE_ite, okE_isi, okE_b1, okE_b2, okE_bm, okE_call, okE_ix, okE_sl, okE_tup, okE_lst, okE_dct, okE_new, okE_lc, okEs_nil, okEs_cons, onVal_val, onOwn_own, onO_some, onO_none, onO_map, onB_bl, onCell_lst, onCell_dct, onInts_int, okO_ok, List.getElem?_cons_zero, List.getElem?_cons_succ, List.set_cons_zero, List.set_cons_succ, isNo, boundC, G0, G1, isiD, keyB]

/-! ### words -/
def isS (s : Str) : D → Bool
  | .str z => s == z
  | _ => false
def inS (ss : List Str) : D → Bool
  | .str b => ss.any fun s => s == b
  | _ => false
theorem eqD_str {s : Str} {d : D} (hd : plain1 d = true) : eqD (.str s) d = some (isS s d) := by
  cases d <;> first | rfl | (cases hd)
theorem eqD_strR {s : Str} {d : D} (hd : plain1 d = true) : eqD d (.str s) = some (isS s d) := by
  cases d <;> first | rfl | (cases hd; done) | skip
  rename_i z
  show some (z == s) = some (s == z)
  rw [show (z == s) = (s == z) from BEq.comm]
theorem eqH_str {h : List Cell} {s : Str} {d : D} (hd : plain1 d = true) : eqH h d (.str s) = some (isS s d) := by
  unfold eqH
  rw [if_pos (by show min d.depth 0 ≤ 100; omega), eqD_strR hd]
theorem inL_strs {d : D} (hd : plain1 d = true) : ∀ {ss : List Str}, inL d (ss.map .str) = some (inS ss d)
  | [] => by cases d <;> rfl
  | s :: ss => by
    rw [List.map_cons, inL, eqD_str hd, inL_strs hd]
    cases d <;> rfl
theorem depth_strs : ∀ {ss : List Str}, depthL (ss.map .str) = 0
  | [] => rfl
  | s :: ss => by
    rw [List.map_cons, depthL, depth_strs]
    rfl
theorem inH_tup {h : List Cell} {ss : List Str} {d : D} (hd : plain1 d = true) : inH h d (.tup (ss.map .str)) = some (inS ss d) := by
  unfold inH
  simp only [seqOf, depth_strs]
  rw [if_pos (by omega), inL_strs hd]
theorem inH_lst {h : List Cell} {ss : List Str} {d : D} (hd : plain1 d = true) : inH h d (.lst (ss.map .str)) = some (inS ss d) := by
  unfold inH
  simp only [seqOf, depth_strs]
  rw [if_pos (by omega), inL_strs hd]
theorem ix_tup {h : List Cell} {ds : List D} {k : Int} : ixD h (.tup ds) (.int k) = L2.atI ds k := rfl
theorem ix_lst {h : List Cell} {ds : List D} {k : Int} : ixD h (.lst ds) (.int k) = L2.atI ds k := rfl
theorem at0 {a : D} {l : List D} : L2.atI (a :: l) 0 = some a := by
  unfold L2.atI L2.ixN
  rw [if_pos (by decide), if_pos (by simp only [List.length_cons]; omega)]
  rfl
theorem at1 {a b : D} {l : List D} : L2.atI (a :: b :: l) 1 = some b := by
  unfold L2.atI L2.ixN
  rw [if_pos (by decide), if_pos (by simp only [List.length_cons]; omega)]
  rfl
theorem at2 {a b c : D} {l : List D} : L2.atI (a :: b :: c :: l) 2 = some c := by
  unfold L2.atI L2.ixN
  rw [if_pos (by decide), if_pos (by simp only [List.length_cons]; omega)]
  rfl
theorem at3 {a b c d : D} {l : List D} : L2.atI (a :: b :: c :: d :: l) 3 = some d := by
  unfold L2.atI L2.ixN
  rw [if_pos (by decide), if_pos (by simp only [List.length_cons]; omega)]
  rfl
theorem c_eq {h : List Cell} {a b : Int} : cmpD .eq h (.int a) (.int b) = some (.bl (decide (a = b))) := by
  have : eqH h (.int a) (.int b) = some (a == b) := by
    unfold eqH
    rw [if_pos (by show min 0 0 ≤ 100; omega)]
    rfl
  unfold cmpD
  simp only [this, Option.map]
  congr 2
theorem c_lt {h : List Cell} {a b : Int} : cmpD .lt h (.int a) (.int b) = some (.bl (decide (a < b))) := rfl
theorem c_le {h : List Cell} {a b : Int} : cmpD .le h (.int a) (.int b) = some (.bl (decide (a ≤ b))) := rfl
theorem c_gt {h : List Cell} {a b : Int} : cmpD .gt h (.int a) (.int b) = some (.bl (decide (b < a))) := rfl
theorem c_ge {h : List Cell} {a b : Int} : cmpD .ge h (.int a) (.int b) = some (.bl (decide (b ≤ a))) := rfl
theorem c_eqs {h : List Cell} {s : Str} {d : D} (hd : plain1 d = true) : cmpD .eq h d (.str s) = some (.bl (isS s d)) := by
  unfold cmpD
  simp only [eqH_str hd, Option.map]
theorem l_tup {h : List Cell} {ds : List D} : b1D .len h (.tup ds) = some (.int ds.length) := rfl
theorem l_lst {h : List Cell} {ds : List D} : b1D .len h (.lst ds) = some (.int ds.length) := rfl
theorem b_sub {h : List Cell} {a b : Int} : binD .sub h (.int a) (.int b) = some (.int (a - b)) := rfl
theorem b_add {h : List Cell} {a b : Int} : binD .add h (.int a) (.int b) = some (.int (a + b)) := rfl
abbrev keptW : List Str := ["get", "put", "let", "if", "else", "fi", "end", "drop"]
abbrev signW : List Str := ["+", "-", "*", "<", "="]
def labelB (d : D) : Bool := keyB d && !inS keptW d
theorem is_label (d : D) (hd : plain1 d = true) (m : Nat) (h : List Cell) : callN T (m + 2) 1 [d] h = some (.ok (.bl (labelB d)) h) := by
  refine ok_eq (ok_call (F := ⟨1, 1, b1⟩) rfl rfl ?_)
  show okCs T (callN T (m + 1)) b1 [.val d] h _ _
  have e : inH h d (.tup [(.str "get"), (.str "put"), (.str "let"), (.str "if"), (.str "else"), (.str "fi"), (.str "end"), (.str "drop")]) = some (inS keptW d) := inH_tup (ss := keptW) hd
  simp (decide := true) only [b1, okCs_nil, okCs_cons, okC_asg, okC_own, okC_stIx, okC_aug, okC_app, okC_ex, okC_ret, okC_retN, okC_ite, okC_for, okE_c, okE_no, okE_v, okE_pk, okE_g, okE_bin, okE_neg, okE_cmp, okE_chain, okE_and, okE_or, okE_not, okE_ite, okE_isi, okE_b1, okE_b2, okE_bm, okE_call, okE_ix, okE_sl, okE_tup, okE_lst, okE_dct, okE_new, okE_lc, okEs_nil, okEs_cons, onVal_val, onOwn_own, onO_some, onO_none, onO_map, onB_bl, onCell_lst, onCell_dct, onInts_int, okO_ok, List.getElem?_cons_zero, List.getElem?_cons_succ, List.set_cons_zero, List.set_cons_succ, isNo, boundC, G2, is_key d hd, cmpD, e, Option.map]
  cases hk : keyB d <;> simp [labelB, hk, onO, onB]
def valueB : D → Bool
  | .int i => decide (0 ≤ i) && decide (i < 1000)
  | _ => false
theorem is_value (d : D) (hd : plain1 d = true) (m : Nat) (h : List Cell) : callN T (m + 1) 2 [d] h = some (.ok (.bl (valueB d)) h) := by
  refine ok_eq (ok_call (F := ⟨1, 1, b2⟩) rfl rfl ?_)
  show okCs T (callN T m) b2 [.val d] h _ _
  cases d with
  | int i =>
    simp (decide := true) only [b2, okCs_nil, okCs_cons, okC_asg, okC_own, okC_stIx, okC_aug, okC_app, okC_ex, okC_ret, okC_retN, okC_ite, okC_for, okE_c, okE_no, okE_v, okE_pk, okE_g, okE_bin, okE_neg, okE_cmp, okE_chain, okE_and, okE_or, okE_not, okE_ite, okE_isi, okE_b1, okE_b2, okE_bm, okE_call, okE_ix, okE_sl, okE_tup, okE_lst, okE_dct, okE_new, okE_lc, okEs_nil, okEs_cons, onVal_val, onOwn_own, onO_some, onO_none, onO_map, onB_bl, onCell_lst, onCell_dct, onInts_int, okO_ok, List.getElem?_cons_zero, List.getElem?_cons_succ, List.set_cons_zero, List.set_cons_succ, isNo, boundC, G3, isiD, cmpD]
    by_cases h1 : 0 ≤ i <;> simp (decide := true) [h1, valueB, onO, onB]
  | ref _ => cases hd
  | scr _ => cases hd
  | bl b => simp (decide := true) [b2, okCs_nil, okCs_cons, okC_asg, okC_own, okC_stIx, okC_aug, okC_app, okC_ex, okC_ret, okC_retN, okC_ite, okC_for, okE_c, okE_no, okE_v, okE_pk, okE_g, okE_bin, okE_neg, okE_cmp, okE_chain, okE_and, okE_or, okE_not, okE_ite, okE_isi, okE_b1, okE_b2, okE_bm, okE_call, okE_ix, okE_sl, okE_tup, okE_lst, okE_dct, okE_new, okE_lc, okEs_nil, okEs_cons, onVal_val, onOwn_own, onO_some, onO_none, onO_map, onB_bl, onCell_lst, onCell_dct, onInts_int, okO_ok, List.getElem?_cons_zero, List.getElem?_cons_succ, List.set_cons_zero, List.set_cons_succ, isNo, boundC, G3, isiD, valueB]
  | _ => simp (decide := true) [b2, okCs_nil, okCs_cons, okC_asg, okC_own, okC_stIx, okC_aug, okC_app, okC_ex, okC_ret, okC_retN, okC_ite, okC_for, okE_c, okE_no, okE_v, okE_pk, okE_g, okE_bin, okE_neg, okE_cmp, okE_chain, okE_and, okE_or, okE_not, okE_ite, okE_isi, okE_b1, okE_b2, okE_bm, okE_call, okE_ix, okE_sl, okE_tup, okE_lst, okE_dct, okE_new, okE_lc, okEs_nil, okEs_cons, onVal_val, onOwn_own, onO_some, onO_none, onO_map, onB_bl, onCell_lst, onCell_dct, onInts_int, okO_ok, List.getElem?_cons_zero, List.getElem?_cons_succ, List.set_cons_zero, List.set_cons_succ, isNo, boundC, G3, isiD, valueB]
/-- a thing without changing parts, less than k deep, no part too long -/
def good : Nat → D → Prop
  | k, .tup ds => match k with
    | 0 => False
    | k + 1 => ds.length ≤ 1000 ∧ ∀ d ∈ ds, good k d
  | k, .lst ds => match k with
    | 0 => False
    | k + 1 => ds.length ≤ 1000 ∧ ∀ d ∈ ds, good k d
  | _, .ref _ => False
  | _, .scr _ => False
  | _, _ => True
theorem good.p1 {k : Nat} {d : D} (h : good k d) : plain1 d = true := by
  cases d <;> first | rfl | (unfold good at h; exact h.elim)
theorem good_tup {k : Nat} {ds : List D} (h : good (k + 1) (.tup ds)) : ds.length ≤ 1000 ∧ ∀ d ∈ ds, good k d := by
  unfold good at h
  exact h
theorem good0 {ds : List D} (h : good 0 (.tup ds)) : False := by
  unfold good at h
  exact h
def sumD : Nat → D → Nat
  | 0, _ => 0
  | k + 1, d => match d with
    | .tup [a, b] => if (isS "number" a && valueB b || isS "box" a && labelB b) = true then 1 else 0
    | .tup [a, b, c] => if (inS signW a && decide (0 < sumD k b) && decide (0 < sumD k c)) = true then 1 + max (sumD k b) (sumD k c) else 0
    | _ => 0
theorem isi_tup {k : Nat} {d : D} (h : good k d) {hh : List Cell} : isiD .tuple hh d = some (match d with | .tup _ => true | _ => false) := by
  cases d <;> first | rfl | (unfold good at h; exact h.elim)
theorem is_valueN {d : D} (hd : plain1 d = true) {n : Nat} (hn : 1 ≤ n) (h : List Cell) : callN T n 2 [d] h = some (.ok (.bl (valueB d)) h) := by
  obtain ⟨m, rfl⟩ : ∃ m, n = m + 1 := ⟨n - 1, by omega⟩
  exact is_value d hd m h
theorem is_labelN {d : D} (hd : plain1 d = true) {n : Nat} (hn : 2 ≤ n) (h : List Cell) : callN T n 1 [d] h = some (.ok (.bl (labelB d)) h) := by
  obtain ⟨m, rfl⟩ : ∃ m, n = m + 2 := ⟨n - 2, by omega⟩
  exact is_label d hd m h
theorem c_inS {h : List Cell} {d : D} (hd : plain1 d = true) : cmpD .isin h d (.tup [(.str "+"), (.str "-"), (.str "*"), (.str "<"), (.str "=")]) = some (.bl (inS signW d)) := by
  have e : inH h d (.tup [(.str "+"), (.str "-"), (.str "*"), (.str "<"), (.str "=")]) = some (inS signW d) := inH_tup (ss := signW) hd
  unfold cmpD
  simp only [e, Option.map]
theorem is_sum : ∀ (k : Nat) (d : D), good k d → ∀ (left : Int) (n : Nat) (h : List Cell), k + 4 ≤ n → callN T n 3 [d, .int left] h = some (.ok (.bl (decide (0 < sumD k d) && decide ((sumD k d : Int) ≤ left))) h)
  | k, d, hg, left, n, h, hn => by
    obtain ⟨m, rfl⟩ : ∃ m, n = m + 1 := ⟨n - 1, by omega⟩
    refine ok_eq (ok_call (n := m) (F := ⟨2, 2, b3⟩) rfl rfl ?_)
    show okCs T (callN T m) b3 [.val d, .val (.int left)] h _ _
    simp (decide := true) only [b3, okCs_nil, okCs_cons, okC_asg, okC_own, okC_stIx, okC_aug, okC_app, okC_ex, okC_ret, okC_retN, okC_ite, okC_for, okE_c, okE_no, okE_v, okE_pk, okE_g, okE_bin, okE_neg, okE_cmp, okE_chain, okE_and, okE_or, okE_not, okE_ite, okE_isi, okE_b1, okE_b2, okE_bm, okE_call, okE_ix, okE_sl, okE_tup, okE_lst, okE_dct, okE_new, okE_lc, okEs_nil, okEs_cons, onVal_val, onOwn_own, onO_some, onO_none, onO_map, onB_bl, onCell_lst, onCell_dct, onInts_int, okO_ok, List.getElem?_cons_zero, List.getElem?_cons_succ, List.set_cons_zero, List.set_cons_succ, isNo, boundC, isi_tup hg]
    cases d with
    | tup ds =>
      simp only [Bool.not_true, Bool.false_eq_true, if_false, c_lt, onO_some, onB_bl]
      cases k with
      | zero => exact (good0 hg).elim
      | succ k =>
        obtain ⟨hz, hd⟩ := good_tup hg
        by_cases hl : left < 1
        · simp only [hl, decide_true, if_true, and_true]
          congr 1
          rw [eq_comm, Bool.and_eq_false_iff]
          simp only [decide_eq_false_iff_not]
          omega
        · simp only [hl, decide_false, Bool.false_eq_true, if_false, l_tup, onO_some]
          match ds, hz, hd with
          | [], hz, hd => simp (decide := true) [c_eq, okCs_nil, okCs_cons, okC_asg, okC_own, okC_stIx, okC_aug, okC_app, okC_ex, okC_ret, okC_retN, okC_ite, okC_for, okE_c, okE_no, okE_v, okE_pk, okE_g, okE_bin, okE_neg, okE_cmp, okE_chain, okE_and, okE_or, okE_not, okE_ite, okE_isi, okE_b1, okE_b2, okE_bm, okE_call, okE_ix, okE_sl, okE_tup, okE_lst, okE_dct, okE_new, okE_lc, okEs_nil, okEs_cons, onVal_val, onOwn_own, onO_some, onO_none, onO_map, onB_bl, onCell_lst, onCell_dct, onInts_int, okO_ok, List.getElem?_cons_zero, List.getElem?_cons_succ, List.set_cons_zero, List.set_cons_succ, isNo, boundC, sumD]
          | [a], hz, hd => simp (decide := true) [c_eq, okCs_nil, okCs_cons, okC_asg, okC_own, okC_stIx, okC_aug, okC_app, okC_ex, okC_ret, okC_retN, okC_ite, okC_for, okE_c, okE_no, okE_v, okE_pk, okE_g, okE_bin, okE_neg, okE_cmp, okE_chain, okE_and, okE_or, okE_not, okE_ite, okE_isi, okE_b1, okE_b2, okE_bm, okE_call, okE_ix, okE_sl, okE_tup, okE_lst, okE_dct, okE_new, okE_lc, okEs_nil, okEs_cons, onVal_val, onOwn_own, onO_some, onO_none, onO_map, onB_bl, onCell_lst, onCell_dct, onInts_int, okO_ok, List.getElem?_cons_zero, List.getElem?_cons_succ, List.set_cons_zero, List.set_cons_succ, isNo, boundC, sumD]
          | [a, b], hz, hd =>
            have pa := (hd a (by simp)).p1
            have pb := (hd b (by simp)).p1
            have e1 := is_valueN pb (n := m) (by omega)
            have e2 := is_labelN pb (n := m) (by omega)
            simp (decide := true) only [c_eq, okCs_nil, okCs_cons, okC_asg, okC_own, okC_stIx, okC_aug, okC_app, okC_ex, okC_ret, okC_retN, okC_ite, okC_for, okE_c, okE_no, okE_v, okE_pk, okE_g, okE_bin, okE_neg, okE_cmp, okE_chain, okE_and, okE_or, okE_not, okE_ite, okE_isi, okE_b1, okE_b2, okE_bm, okE_call, okE_ix, okE_sl, okE_tup, okE_lst, okE_dct, okE_new, okE_lc, okEs_nil, okEs_cons, onVal_val, onOwn_own, onO_some, onO_none, onO_map, onB_bl, onCell_lst, onCell_dct, onInts_int, okO_ok, List.getElem?_cons_zero, List.getElem?_cons_succ, List.set_cons_zero, List.set_cons_succ, isNo, boundC, ix_tup, at0, at1, c_eqs pa, e1, e2, sumD, List.length_cons, List.length_nil]
            by_cases q0 : isS "number" a = true <;> by_cases q1 : valueB b = true <;> by_cases q2 : isS "box" a = true <;> by_cases q3 : labelB b = true <;> simp [q0, q1, q2, q3] <;> omega
          | [a, b, c], hz, hd =>
            have pa := (hd a (by simp)).p1
            have e1 := fun h => is_sum k b (hd b (by simp)) (left - 1) m h (by omega)
            have e2 := fun h => is_sum k c (hd c (by simp)) (left - 1) m h (by omega)
            simp (decide := true) only [c_eq, okCs_nil, okCs_cons, okC_asg, okC_own, okC_stIx, okC_aug, okC_app, okC_ex, okC_ret, okC_retN, okC_ite, okC_for, okE_c, okE_no, okE_v, okE_pk, okE_g, okE_bin, okE_neg, okE_cmp, okE_chain, okE_and, okE_or, okE_not, okE_ite, okE_isi, okE_b1, okE_b2, okE_bm, okE_call, okE_ix, okE_sl, okE_tup, okE_lst, okE_dct, okE_new, okE_lc, okEs_nil, okEs_cons, onVal_val, onOwn_own, onO_some, onO_none, onO_map, onB_bl, onCell_lst, onCell_dct, onInts_int, okO_ok, List.getElem?_cons_zero, List.getElem?_cons_succ, List.set_cons_zero, List.set_cons_succ, isNo, boundC, ix_tup, at0, at1, at2, G4, c_inS pa, b_sub, e1, e2, sumD, List.length_cons, List.length_nil]
            by_cases q0 : inS signW a = true <;> by_cases q1 : 0 < sumD k b <;> by_cases q2 : 0 < sumD k c <;> by_cases q3 : (sumD k b : Int) ≤ left - 1 <;> by_cases q4 : (sumD k c : Int) ≤ left - 1 <;> simp [q0, q1, q2, q3, q4] <;> omega
          | a :: b :: c :: e :: r, hz, hd =>
            have n2 : ((a :: b :: c :: e :: r).length : Int) ≠ 2 := by simp only [List.length_cons]; omega
            have n3 : ((a :: b :: c :: e :: r).length : Int) ≠ 3 := by simp only [List.length_cons]; omega
            simp (decide := true) only [c_eq, okCs_nil, okCs_cons, okC_asg, okC_own, okC_stIx, okC_aug, okC_app, okC_ex, okC_ret, okC_retN, okC_ite, okC_for, okE_c, okE_no, okE_v, okE_pk, okE_g, okE_bin, okE_neg, okE_cmp, okE_chain, okE_and, okE_or, okE_not, okE_ite, okE_isi, okE_b1, okE_b2, okE_bm, okE_call, okE_ix, okE_sl, okE_tup, okE_lst, okE_dct, okE_new, okE_lc, okEs_nil, okEs_cons, onVal_val, onOwn_own, onO_some, onO_none, onO_map, onB_bl, onCell_lst, onCell_dct, onInts_int, okO_ok, List.getElem?_cons_zero, List.getElem?_cons_succ, List.set_cons_zero, List.set_cons_succ, isNo, boundC, n2, n3, decide_false, Bool.false_eq_true, if_false, sumD]
            simp
    | _ =>
      simp only [Bool.not_false, if_true]
      cases k <;> simp [sumD]
end K81

set_option linter.all false
set_option Elab.async false
set_option maxRecDepth 100000
set_option maxHeartbeats 4000000
namespace K81
open PySem DC
def isLast : D → Bool
  | .tup [a] => isS "end" a || isS "drop" a
  | _ => false
def sumOk (k : Nat) (d : D) : Bool := decide (0 < sumD k d) && decide ((sumD k d : Int) ≤ 4)
/-- a line's lines and asks, where it is good -/
def lineC (k : Nat) (sub : Int → D → Option (Nat × Nat)) (ifs : Int) (last : Bool) (d : D) : Option (Nat × Nat) := match d with
  | .tup [a] => if ((isS "end" a || isS "drop" a) && last) = true then some (1, 0) else none
  | .tup [a, b, c] => if isS "get" a = true then (if (labelB b && labelB c) = true then some (1, 1) else none) else if (inS ["put", "let"] a && labelB b && sumOk k c) = true then some (1, if isS "put" a = true then 1 else 0) else none
  | .tup [a, b, c, e] => if (isS "if" a && decide (ifs < 3) && sumOk k b) = true then (match sub (ifs + 1) c, sub (ifs + 1) e with
    | some (x, y), some (x', y') => some (1 + x + x', y + y')
    | _, _ => none) else none
  | _ => none
def goL (f : Bool → D → Option (Nat × Nat)) : List D → Option (Nat × Nat)
  | [] => some (0, 0)
  | d :: ds => match f ds.isEmpty d, goL f ds with
    | some (a, b), some (a', b') => some (a + a', b + b')
    | _, _ => none
def linesC : Nat → Int → D → Option (Nat × Nat)
  | 0, _, _ => none
  | k + 1, ifs, d => match d with
    | .tup ls => goL (lineC k (linesC k) ifs) ls
    | _ => none
theorem good_mono : ∀ {k : Nat} {d : D}, good k d → good (k + 1) d
  | 0, d, h => by
    cases d <;> first | (unfold good; trivial) | (unfold good at h; exact h.elim)
  | k + 1, d, h => by
    cases d <;> first | (unfold good; trivial) | (unfold good at h; exact h.elim) | skip
    all_goals
      unfold good at h ⊢
      exact ⟨h.1, fun d hd => good_mono (h.2 d hd)⟩
theorem c_inPL {h : List Cell} {d : D} (hd : plain1 d = true) : cmpD .isin h d (.tup [(.str "put"), (.str "let")]) = some (.bl (inS ["put", "let"] d)) := by
  have e : inH h d (.tup [(.str "put"), (.str "let")]) = some (inS ["put", "let"] d) := inH_tup (ss := ["put", "let"]) hd
  unfold cmpD
  simp only [e, Option.map]
theorem in_last {h : List Cell} {k : Nat} {d : D} (hg : good k d) : inH h d (.tup [(.tup [(.str "end")]), (.tup [(.str "drop")])]) = some (isLast d) := by
  have e1 : ∀ s : Str, eqD (.tup [.str s]) d = some (match d with | .tup [a] => isS s a | _ => false) := fun s => by
    cases d <;> first | rfl | (unfold good at hg; exact hg.elim) | skip
    rename_i ds
    cases k with
    | zero => exact (good0 hg).elim
    | succ k =>
      obtain ⟨_, hd⟩ := good_tup hg
      match ds, hd with
      | [], _ => rfl
      | [a], hd =>
        have z : eqZ [.str s] [a] = some (isS s a) := by
          rw [eqZ, eqD_str (hd a (by simp)).p1]
          simp [eqZ]
        show (eqZ [.str s] [a]).map _ = _
        rw [z]
        simp
      | a :: b :: r, hd =>
        have z : eqZ [.str s] (a :: b :: r) = some (isS s a) := by
          rw [eqZ, eqD_str (hd a (by simp)).p1]
          simp [eqZ]
        show (eqZ [.str s] (a :: b :: r)).map _ = _
        rw [z]
        simp
  unfold inH
  simp only [seqOf]
  rw [if_pos (by show min d.depth 1 ≤ 100; omega)]
  simp only [inL, e1]
  cases d <;> try rfl
  rename_i ds
  match ds with
  | [] => rfl
  | [a] => simp [isLast]
  | a :: b :: r => rfl
theorem c_inLast {h : List Cell} {k : Nat} {d : D} (hg : good k d) : cmpD .isin h d (.tup [(.tup [(.str "end")]), (.tup [(.str "drop")])]) = some (.bl (isLast d)) := by
  unfold cmpD
  simp only [in_last hg, Option.map]
theorem c_ninLast {h : List Cell} {k : Nat} {d : D} (hg : good k d) : cmpD .notin h d (.tup [(.tup [(.str "end")]), (.tup [(.str "drop")])]) = some (.bl (!isLast d)) := by
  unfold cmpD
  simp only [in_last hg, Option.map]
theorem is_line {k : Nat} (ih : ∀ (d : D), good k d → ∀ (ifs : Int) (n : Nat) (h : List Cell), 2 * k + 6 ≤ n → callN T n 5 [d, .int ifs] h = some (.ok (.bl (linesC k ifs d).isSome) h)) (d : D) (hg : good k d) (ifs : Int) (n : Nat) (h : List Cell) (hn : 2 * k + 7 ≤ n) :
    callN T n 4 [d, .int ifs] h = some (.ok (.bl (lineC k (linesC k) ifs true d).isSome) h) := by
  obtain ⟨m, rfl⟩ : ∃ m, n = m + 1 := ⟨n - 1, by omega⟩
  refine ok_eq (ok_call (n := m) (F := ⟨2, 3, b4⟩) rfl rfl ?_)
  show okCs T (callN T m) b4 [.val d, .val (.int ifs), .no] h _ _
  simp (decide := true) only [b4, okCs_nil, okCs_cons, okC_asg, okC_own, okC_stIx, okC_aug, okC_app, okC_ex, okC_ret, okC_retN, okC_ite, okC_for, okE_c, okE_no, okE_v, okE_pk, okE_g, okE_bin, okE_neg, okE_cmp, okE_chain, okE_and, okE_or, okE_not, okE_ite, okE_isi, okE_b1, okE_b2, okE_bm, okE_call, okE_ix, okE_sl, okE_tup, okE_lst, okE_dct, okE_new, okE_lc, okEs_nil, okEs_cons, onVal_val, onOwn_own, onO_some, onO_none, onO_map, onB_bl, onCell_lst, onCell_dct, onInts_int, okO_ok, List.getElem?_cons_zero, List.getElem?_cons_succ, List.set_cons_zero, List.set_cons_succ, isNo, boundC, isi_tup hg]
  cases d with
  | tup ds =>
    simp only [Bool.not_true, Bool.false_eq_true, if_false, l_tup, onO_some, c_eq, onB_bl]
    cases k with
    | zero => exact (good0 hg).elim
    | succ k =>
      obtain ⟨hz, hd⟩ := good_tup hg
      match ds, hz, hd with
      | [], hz, hd => 
        simp (decide := true) only [okCs_nil, okCs_cons, okC_asg, okC_own, okC_stIx, okC_aug, okC_app, okC_ex, okC_ret, okC_retN, okC_ite, okC_for, okE_c, okE_no, okE_v, okE_pk, okE_g, okE_bin, okE_neg, okE_cmp, okE_chain, okE_and, okE_or, okE_not, okE_ite, okE_isi, okE_b1, okE_b2, okE_bm, okE_call, okE_ix, okE_sl, okE_tup, okE_lst, okE_dct, okE_new, okE_lc, okEs_nil, okEs_cons, onVal_val, onOwn_own, onO_some, onO_none, onO_map, onB_bl, onCell_lst, onCell_dct, onInts_int, okO_ok, List.getElem?_cons_zero, List.getElem?_cons_succ, List.set_cons_zero, List.set_cons_succ, isNo, boundC, List.length_nil, G7, c_inLast hg]
        simp [isLast, lineC]
      | [a], hz, hd =>
        simp (decide := true) only [okCs_nil, okCs_cons, okC_asg, okC_own, okC_stIx, okC_aug, okC_app, okC_ex, okC_ret, okC_retN, okC_ite, okC_for, okE_c, okE_no, okE_v, okE_pk, okE_g, okE_bin, okE_neg, okE_cmp, okE_chain, okE_and, okE_or, okE_not, okE_ite, okE_isi, okE_b1, okE_b2, okE_bm, okE_call, okE_ix, okE_sl, okE_tup, okE_lst, okE_dct, okE_new, okE_lc, okEs_nil, okEs_cons, onVal_val, onOwn_own, onO_some, onO_none, onO_map, onB_bl, onCell_lst, onCell_dct, onInts_int, okO_ok, List.getElem?_cons_zero, List.getElem?_cons_succ, List.set_cons_zero, List.set_cons_succ, isNo, boundC, List.length_cons, List.length_nil, G7, c_inLast hg]
        by_cases q : (isS "end" a || isS "drop" a) = true <;> simp [isLast, lineC, q]
      | [a, b], hz, hd =>
        simp (decide := true) only [okCs_nil, okCs_cons, okC_asg, okC_own, okC_stIx, okC_aug, okC_app, okC_ex, okC_ret, okC_retN, okC_ite, okC_for, okE_c, okE_no, okE_v, okE_pk, okE_g, okE_bin, okE_neg, okE_cmp, okE_chain, okE_and, okE_or, okE_not, okE_ite, okE_isi, okE_b1, okE_b2, okE_bm, okE_call, okE_ix, okE_sl, okE_tup, okE_lst, okE_dct, okE_new, okE_lc, okEs_nil, okEs_cons, onVal_val, onOwn_own, onO_some, onO_none, onO_map, onB_bl, onCell_lst, onCell_dct, onInts_int, okO_ok, List.getElem?_cons_zero, List.getElem?_cons_succ, List.set_cons_zero, List.set_cons_succ, isNo, boundC, List.length_cons, List.length_nil, G7, c_inLast hg]
        simp [isLast, lineC]
      | [a, b, c], hz, hd =>
        have pa := (hd a (by simp)).p1
        have pb := (hd b (by simp)).p1
        have pc := (hd c (by simp)).p1
        have e1 := is_labelN pb (n := m) (by omega)
        have e2 := is_labelN pc (n := m) (by omega)
        have e3 : ∀ h, callN T m 3 [c, .int 4] h = some (.ok (.bl (sumOk (k + 1) c)) h) := fun h => is_sum (k + 1) c (good_mono (hd c (by simp))) 4 m h (by omega)
        simp (decide := true) only [okCs_nil, okCs_cons, okC_asg, okC_own, okC_stIx, okC_aug, okC_app, okC_ex, okC_ret, okC_retN, okC_ite, okC_for, okE_c, okE_no, okE_v, okE_pk, okE_g, okE_bin, okE_neg, okE_cmp, okE_chain, okE_and, okE_or, okE_not, okE_ite, okE_isi, okE_b1, okE_b2, okE_bm, okE_call, okE_ix, okE_sl, okE_tup, okE_lst, okE_dct, okE_new, okE_lc, okEs_nil, okEs_cons, onVal_val, onOwn_own, onO_some, onO_none, onO_map, onB_bl, onCell_lst, onCell_dct, onInts_int, okO_ok, List.getElem?_cons_zero, List.getElem?_cons_succ, List.set_cons_zero, List.set_cons_succ, isNo, boundC, ix_tup, at0, at1, at2, c_eqs pa, c_inPL pa, e1, e2, e3, G5, List.length_cons, List.length_nil]
        by_cases q0 : isS "get" a = true
        · by_cases q1 : labelB b = true <;> by_cases q2 : labelB c = true <;> simp [lineC, q0, q1, q2]
        · by_cases q1 : inS ["put", "let"] a = true <;> by_cases q2 : labelB b = true <;> by_cases q3 : sumOk (k + 1) c = true <;> simp [lineC, q0, q1, q2, q3]
      | [a, b, c, e], hz, hd =>
        have pa := (hd a (by simp)).p1
        have e1 : ∀ h, callN T m 3 [b, .int 4] h = some (.ok (.bl (sumOk (k + 1) b)) h) := fun h => is_sum (k + 1) b (good_mono (hd b (by simp))) 4 m h (by omega)
        have e2 := fun h => ih c (good_mono (hd c (by simp))) (ifs + 1) m h (by omega)
        have e3 := fun h => ih e (good_mono (hd e (by simp))) (ifs + 1) m h (by omega)
        simp (decide := true) only [okCs_nil, okCs_cons, okC_asg, okC_own, okC_stIx, okC_aug, okC_app, okC_ex, okC_ret, okC_retN, okC_ite, okC_for, okE_c, okE_no, okE_v, okE_pk, okE_g, okE_bin, okE_neg, okE_cmp, okE_chain, okE_and, okE_or, okE_not, okE_ite, okE_isi, okE_b1, okE_b2, okE_bm, okE_call, okE_ix, okE_sl, okE_tup, okE_lst, okE_dct, okE_new, okE_lc, okEs_nil, okEs_cons, onVal_val, onOwn_own, onO_some, onO_none, onO_map, onB_bl, onCell_lst, onCell_dct, onInts_int, okO_ok, List.getElem?_cons_zero, List.getElem?_cons_succ, List.set_cons_zero, List.set_cons_succ, isNo, boundC, ix_tup, at0, at1, at2, at3, c_eqs pa, e1, e2, e3, G5, G6, c_lt, b_add, List.length_cons, List.length_nil]
        by_cases q0 : isS "if" a = true <;> by_cases q1 : ifs < 3 <;> by_cases q2 : sumOk (k + 1) b = true <;> simp [lineC, q0, q1, q2]
        cases linesC (k + 1) (ifs + 1) c <;> cases linesC (k + 1) (ifs + 1) e <;> simp
      | a :: b :: c :: e :: f :: r, hz, hd =>
        have n3 : ((a :: b :: c :: e :: f :: r).length : Int) ≠ 3 := by simp only [List.length_cons]; omega
        have n4 : ((a :: b :: c :: e :: f :: r).length : Int) ≠ 4 := by simp only [List.length_cons]; omega
        simp (decide := true) only [okCs_nil, okCs_cons, okC_asg, okC_own, okC_stIx, okC_aug, okC_app, okC_ex, okC_ret, okC_retN, okC_ite, okC_for, okE_c, okE_no, okE_v, okE_pk, okE_g, okE_bin, okE_neg, okE_cmp, okE_chain, okE_and, okE_or, okE_not, okE_ite, okE_isi, okE_b1, okE_b2, okE_bm, okE_call, okE_ix, okE_sl, okE_tup, okE_lst, okE_dct, okE_new, okE_lc, okEs_nil, okEs_cons, onVal_val, onOwn_own, onO_some, onO_none, onO_map, onB_bl, onCell_lst, onCell_dct, onInts_int, okO_ok, List.getElem?_cons_zero, List.getElem?_cons_succ, List.set_cons_zero, List.set_cons_succ, isNo, boundC, n3, n4, G7, c_inLast hg]
        simp [isLast, lineC]
  | _ =>
    simp only [Bool.not_false, if_true]
    simp [lineC]
end K81

set_option linter.all false
set_option Elab.async false
set_option maxRecDepth 100000
set_option maxHeartbeats 4000000
namespace K81
open PySem DC
theorem lineC_false {k : Nat} {sub : Int → D → Option (Nat × Nat)} {ifs : Int} {d : D} : (lineC k sub ifs false d).isSome = ((lineC k sub ifs true d).isSome && !isLast d) := by
  cases d <;> try rfl
  rename_i ds
  match ds with
  | [] => rfl
  | [a] => by_cases q : (isS "end" a || isS "drop" a) = true <;> simp [lineC, isLast, q]
  | [a, b] => rfl
  | [a, b, c] => simp [lineC, isLast]
  | [a, b, c, e] => simp [lineC, isLast]
  | a :: b :: c :: e :: f :: r => rfl
theorem goL_some {k : Nat} {sub : Int → D → Option (Nat × Nat)} {ifs : Int} : ∀ {ls : List D}, (goL (lineC k sub ifs) ls).isSome = ((ls.all fun d => (lineC k sub ifs true d).isSome) && (ls.dropLast.all fun d => !isLast d))
  | [] => rfl
  | [d] => by
    cases h : lineC k sub ifs true d <;> simp [goL, h]
  | d :: e :: r => by
    have ih := goL_some (k := k) (sub := sub) (ifs := ifs) (ls := e :: r)
    have hf := lineC_false (k := k) (sub := sub) (ifs := ifs) (d := d)
    have step : (goL (lineC k sub ifs) (d :: e :: r)).isSome = ((lineC k sub ifs false d).isSome && (goL (lineC k sub ifs) (e :: r)).isSome) := by
      rw [goL]
      show (match lineC k sub ifs false d, goL (lineC k sub ifs) (e :: r) with | some (a, b), some (a', b') => some (a + a', b + b') | _, _ => none).isSome = _
      cases lineC k sub ifs false d <;> cases goL (lineC k sub ifs) (e :: r) <;> rfl
    rw [step, hf, ih, List.dropLast_cons₂, List.all_cons, List.all_cons]
    by_cases q1 : (lineC k sub ifs true d).isSome = true <;> by_cases q2 : isLast d = true <;> simp [q1, q2]
theorem cut_last {ds : List D} : cut ds none (some (-1)) = ds.dropLast := by
  unfold cut HT.sIx
  simp only [List.drop_zero, Nat.sub_zero]
  rw [if_pos (by decide), List.dropLast_eq_take]
  congr 1
  omega
theorem all_eq {h : List Cell} {l : List D} {g : D → Bool} : b1D .all h (.lst (l.map fun d => .bl (g d))) = some (.bl (l.all g)) := by
  show (blsOf (l.map fun d => .bl (g d))).map _ = _
  rw [bls_map]
  simp [Function.comp_def]
theorem are_lines : ∀ (k : Nat) (d : D), good k d → ∀ (ifs : Int) (n : Nat) (h : List Cell), 2 * k + 6 ≤ n → callN T n 5 [d, .int ifs] h = some (.ok (.bl (linesC k ifs d).isSome) h) := by
  intro k
  induction k with
  | zero =>
    intro d hg ifs n h hn
    obtain ⟨m, rfl⟩ : ∃ m, n = m + 1 := ⟨n - 1, by omega⟩
    refine ok_eq (ok_call (n := m) (F := ⟨2, 3, b5⟩) rfl rfl ?_)
    show okCs T (callN T m) b5 [.val d, .val (.int ifs), .no] h _ _
    simp (decide := true) only [b5, okCs_nil, okCs_cons, okC_asg, okC_own, okC_stIx, okC_aug, okC_app, okC_ex, okC_ret, okC_retN, okC_ite, okC_for, okE_c, okE_no, okE_v, okE_pk, okE_g, okE_bin, okE_neg, okE_cmp, okE_chain, okE_and, okE_or, okE_not, okE_ite, okE_isi, okE_b1, okE_b2, okE_bm, okE_call, okE_ix, okE_sl, okE_tup, okE_lst, okE_dct, okE_new, okE_lc, okEs_nil, okEs_cons, onVal_val, onOwn_own, onO_some, onO_none, onO_map, onB_bl, onCell_lst, onCell_dct, onInts_int, okO_ok, List.getElem?_cons_zero, List.getElem?_cons_succ, List.set_cons_zero, List.set_cons_succ, isNo, boundC, isi_tup hg]
    cases d with
    | tup ds => exact (good0 hg).elim
    | _ => simp [linesC]
  | succ k ih =>
    intro d hg ifs n h hn
    obtain ⟨m, rfl⟩ : ∃ m, n = m + 1 := ⟨n - 1, by omega⟩
    refine ok_eq (ok_call (n := m) (F := ⟨2, 3, b5⟩) rfl rfl ?_)
    show okCs T (callN T m) b5 [.val d, .val (.int ifs), .no] h _ _
    simp (decide := true) only [b5, okCs_nil, okCs_cons, okC_asg, okC_own, okC_stIx, okC_aug, okC_app, okC_ex, okC_ret, okC_retN, okC_ite, okC_for, okE_c, okE_no, okE_v, okE_pk, okE_g, okE_bin, okE_neg, okE_cmp, okE_chain, okE_and, okE_or, okE_not, okE_ite, okE_isi, okE_b1, okE_b2, okE_bm, okE_call, okE_ix, okE_sl, okE_tup, okE_lst, okE_dct, okE_new, okE_lc, okEs_nil, okEs_cons, onVal_val, onOwn_own, onO_some, onO_none, onO_map, onB_bl, onCell_lst, onCell_dct, onInts_int, okO_ok, List.getElem?_cons_zero, List.getElem?_cons_succ, List.set_cons_zero, List.set_cons_succ, isNo, boundC, isi_tup hg]
    cases d with
    | tup ds =>
      obtain ⟨hz, hd⟩ := good_tup hg
      have hz' : ds.length ≤ maxLen := by show _ ≤ 16777216; omega
      have e1 : lcL (lcF1 T (callN T m) (.one 2) [2] (.c (.bl true)) (.call 4 [(.v 2), (.v 1)]) [.val (.tup ds), .val (.int ifs), .no]) ds h = some (.ok (ds.map fun d => .bl (lineC k (linesC k) ifs true d).isSome) h) :=
        lc_pure fun d hd' => by
          rw [okO_lcF1]
          simp (decide := true) only [setTg, wipeS, okCs_nil, okCs_cons, okC_asg, okC_own, okC_stIx, okC_aug, okC_app, okC_ex, okC_ret, okC_retN, okC_ite, okC_for, okE_c, okE_no, okE_v, okE_pk, okE_g, okE_bin, okE_neg, okE_cmp, okE_chain, okE_and, okE_or, okE_not, okE_ite, okE_isi, okE_b1, okE_b2, okE_bm, okE_call, okE_ix, okE_sl, okE_tup, okE_lst, okE_dct, okE_new, okE_lc, okEs_nil, okEs_cons, onVal_val, onOwn_own, onO_some, onO_none, onO_map, onB_bl, onCell_lst, onCell_dct, onInts_int, okO_ok, List.getElem?_cons_zero, List.getElem?_cons_succ, List.set_cons_zero, List.set_cons_succ, isNo, boundC, is_line ih d (hd d hd') ifs m h (by omega)]
          simp
      have e2 : lcL (lcF1 T (callN T m) (.one 2) [2] (.c (.bl true)) (.cmp .notin (.v 2) (.g 7)) [.val (.tup ds), .val (.int ifs), .no]) ds.dropLast h = some (.ok (ds.dropLast.map fun d => .bl (!isLast d)) h) :=
        lc_pure fun d hd' => by
          rw [okO_lcF1]
          simp (decide := true) only [setTg, wipeS, okCs_nil, okCs_cons, okC_asg, okC_own, okC_stIx, okC_aug, okC_app, okC_ex, okC_ret, okC_retN, okC_ite, okC_for, okE_c, okE_no, okE_v, okE_pk, okE_g, okE_bin, okE_neg, okE_cmp, okE_chain, okE_and, okE_or, okE_not, okE_ite, okE_isi, okE_b1, okE_b2, okE_bm, okE_call, okE_ix, okE_sl, okE_tup, okE_lst, okE_dct, okE_new, okE_lc, okEs_nil, okEs_cons, onVal_val, onOwn_own, onO_some, onO_none, onO_map, onB_bl, onCell_lst, onCell_dct, onInts_int, okO_ok, List.getElem?_cons_zero, List.getElem?_cons_succ, List.set_cons_zero, List.set_cons_succ, isNo, boundC, G7, c_ninLast (hd d (List.dropLast_subset _ hd'))]
          simp
      simp (decide := true) only [itemsOf, okCs_nil, okCs_cons, okC_asg, okC_own, okC_stIx, okC_aug, okC_app, okC_ex, okC_ret, okC_retN, okC_ite, okC_for, okE_c, okE_no, okE_v, okE_pk, okE_g, okE_bin, okE_neg, okE_cmp, okE_chain, okE_and, okE_or, okE_not, okE_ite, okE_isi, okE_b1, okE_b2, okE_bm, okE_call, okE_ix, okE_sl, okE_tup, okE_lst, okE_dct, okE_new, okE_lc, okEs_nil, okEs_cons, onVal_val, onOwn_own, onO_some, onO_none, onO_map, onB_bl, onCell_lst, onCell_dct, onInts_int, okO_ok, List.getElem?_cons_zero, List.getElem?_cons_succ, List.set_cons_zero, List.set_cons_succ, isNo, boundC, e1, e2, all_eq, negD, slI, cut_last, List.length_map, List.length_dropLast, hz', linesC, goL_some]
      have hz2 : ds.length - 1 ≤ maxLen := by omega
      cases (ds.all fun d => (lineC k (linesC k) ifs true d).isSome) <;> simp [wipeOk, hz2]
    | _ => simp [linesC]
end K81

set_option linter.all false
set_option Elab.async false
set_option maxRecDepth 100000
set_option maxHeartbeats 4000000
namespace K81
open PySem DC
theorem isS_eq {s : Str} {d : D} (h : isS s d = true) : d = .str s := by
  cases d <;> first | (cases h; done) | skip
  have := eq_of_beq h
  rw [this]
theorem inPL_eq {d : D} (h : inS ["put", "let"] d = true) : d = .str "put" ∨ d = .str "let" := by
  cases d <;> first | (cases h; done) | skip
  rename_i z
  have h : (([("put" : Str), "let"]).any fun s => s == z) = true := h
  simp only [List.any_cons, List.any_nil, Bool.or_false, Bool.or_eq_true] at h
  rcases h with h | h
  · exact .inl (by rw [eq_of_beq h])
  · exact .inr (by rw [eq_of_beq h])
theorem line_cases {k : Nat} {sub : Int → D → Option (Nat × Nat)} {ifs : Int} {last : Bool} {d : D} {a b : Nat} (h : lineC k sub ifs last d = some (a, b)) :
    ((d = .tup [.str "end"] ∨ d = .tup [.str "drop"]) ∧ last = true ∧ a = 1 ∧ b = 0) ∨ (∃ q r, d = .tup [.str "get", q, r] ∧ labelB q = true ∧ labelB r = true ∧ a = 1 ∧ b = 1) ∨
    (∃ q r, d = .tup [.str "put", q, r] ∧ labelB q = true ∧ sumOk k r = true ∧ a = 1 ∧ b = 1) ∨ (∃ q r, d = .tup [.str "let", q, r] ∧ labelB q = true ∧ sumOk k r = true ∧ a = 1 ∧ b = 0) ∨
    (∃ q r t x y x' y', d = .tup [.str "if", q, r, t] ∧ ifs < 3 ∧ sumOk k q = true ∧ sub (ifs + 1) r = some (x, y) ∧ sub (ifs + 1) t = some (x', y') ∧ a = 1 + x + x' ∧ b = y + y') := by
  cases d <;> first | (cases h; done) | skip
  rename_i ds
  match ds, h with
  | [], h => cases h
  | [p], h =>
    unfold lineC at h
    simp only at h
    split at h
    · rename_i hp
      simp only [Bool.and_eq_true, Bool.or_eq_true] at hp
      cases h
      refine .inl ⟨?_, hp.2, rfl, rfl⟩
      rcases hp.1 with q | q
      · exact .inl (by rw [isS_eq q])
      · exact .inr (by rw [isS_eq q])
    · cases h
  | [p, q], h => cases h
  | [p, q, r], h =>
    unfold lineC at h
    simp only at h
    split at h
    · rename_i hp
      split at h
      · rename_i hq
        simp only [Bool.and_eq_true] at hq
        cases h
        exact .inr (.inl ⟨q, r, by rw [isS_eq hp], hq.1, hq.2, rfl, rfl⟩)
      · cases h
    · split at h
      · rename_i hq
        simp only [Bool.and_eq_true] at hq
        rcases inPL_eq hq.1.1 with e | e
        · subst e
          rw [if_pos (by decide +kernel)] at h
          cases h
          exact .inr (.inr (.inl ⟨q, r, rfl, hq.1.2, hq.2, rfl, rfl⟩))
        · subst e
          rw [if_neg (by decide +kernel)] at h
          cases h
          exact .inr (.inr (.inr (.inl ⟨q, r, rfl, hq.1.2, hq.2, rfl, rfl⟩)))
      · cases h
  | [p, q, r, t], h =>
    unfold lineC at h
    simp only at h
    split at h
    · rename_i hp
      simp only [Bool.and_eq_true, decide_eq_true_eq] at hp
      split at h
      · rename_i x y x' y' e1 e2
        cases h
        exact .inr (.inr (.inr (.inr ⟨q, r, t, x, y, x', y', by rw [isS_eq hp.1.1], hp.1.2, hp.2, e1, e2, rfl, rfl⟩)))
      · cases h
    · cases h
  | p :: q :: r :: t :: u :: l, h => cases h
theorem goL_cons {f : Bool → D → Option (Nat × Nat)} {d : D} {ds : List D} {x y : Nat} (h : goL f (d :: ds) = some (x, y)) : ∃ a b a' b', f ds.isEmpty d = some (a, b) ∧ goL f ds = some (a', b') ∧ x = a + a' ∧ y = b + b' := by
  rw [goL] at h
  cases e1 : f ds.isEmpty d with
  | none => rw [e1] at h; cases h
  | some p =>
    cases e2 : goL f ds with
    | none => rw [e1, e2] at h; cases h
    | some q =>
      rw [e1, e2] at h
      cases h
      exact ⟨p.1, p.2, q.1, q.2, rfl, rfl, rfl, rfl⟩
theorem for_cons {f : D → List Slot → List Cell → OutS} {d : D} {ds : List D} {Γ : List Slot} {h : List Cell} {N : List Slot → List Cell → Prop} {R : D → List Cell → Prop} (g : okS (f d Γ h) (fun Γ h => okS (forL f ds Γ h) N R) R) : okS (forL f (d :: ds) Γ h) N R := by
  rw [forL]
  match f d Γ h, g with
  | some (.nx Γ h), g => exact g
  | some (.ret d h), g => exact g
theorem c_eqS {h : List Cell} {s z : Str} : cmpD .eq h (.str z) (.str s) = some (.bl (s == z)) := c_eqs (d := .str z) rfl
theorem c_inGP {h : List Cell} {s : Str} : cmpD .isin h (.str s) (.tup [(.str "get"), (.str "put")]) = some (.bl (inS ["get", "put"] (.str s))) := by
  have e : inH h (.str s) (.tup [(.str "get"), (.str "put")]) = some (inS ["get", "put"] (.str s)) := inH_tup (ss := ["get", "put"]) rfl
  unfold cmpD
  simp only [e, Option.map]
theorem count_lines : ∀ (k : Nat) (d : D), good k d → ∀ (ifs : Int) (x y : Nat), linesC k ifs d = some (x, y) → ∀ (n : Nat) (h : List Cell), k + 2 ≤ n → callN T n 6 [d] h = some (.ok (.int x) h) := by
  intro k
  induction k with
  | zero => intro d hg ifs x y e; cases e
  | succ k ih =>
    intro d hg ifs x y e n h hn
    obtain ⟨m, rfl⟩ : ∃ m, n = m + 1 := ⟨n - 1, by omega⟩
    cases d <;> first | (cases e; done) | skip
    rename_i ls
    obtain ⟨hz, hd⟩ := good_tup hg
    refine ok_eq (ok_call (n := m) (F := ⟨1, 3, b6⟩) rfl rfl ?_)
    show okCs T (callN T m) b6 [.val (.tup ls), .no, .no] h _ _
    simp (decide := true) only [b6, okCs_nil, okCs_cons, okC_asg, okC_own, okC_stIx, okC_aug, okC_app, okC_ex, okC_ret, okC_retN, okC_ite, okC_for, okE_c, okE_no, okE_v, okE_pk, okE_g, okE_bin, okE_neg, okE_cmp, okE_chain, okE_and, okE_or, okE_not, okE_ite, okE_isi, okE_b1, okE_b2, okE_bm, okE_call, okE_ix, okE_sl, okE_tup, okE_lst, okE_dct, okE_new, okE_lc, okEs_nil, okEs_cons, onVal_val, onOwn_own, onO_some, onO_none, onO_map, onB_bl, onCell_lst, onCell_dct, onInts_int, okO_ok, List.getElem?_cons_zero, List.getElem?_cons_succ, List.set_cons_zero, List.set_cons_succ, isNo, boundC, l_tup, itemsOf]
    have e : goL (lineC k (linesC k) ifs) ls = some (x, y) := e
    have key : ∀ (ls : List D) (x y : Nat) (acc : Int) (s : Slot) (d0 : D), (∀ d ∈ ls, good k d) → goL (lineC k (linesC k) ifs) ls = some (x, y) →
        okS (forL (forF T (callN T m) (.one 2) [.ite (.cmp .eq (.ix (.v 2) (.c (.int 0))) (.c (.str "if"))) [.aug 1 (.bin .add (.call 6 [(.ix (.v 2) (.c (.int 2)))]) (.call 6 [(.ix (.v 2) (.c (.int 3)))]))] []]) ls [.val d0, .val (.int acc), s] h) (fun Γ h' => ∃ s, Γ = [.val d0, .val (.int (acc + x - ls.length)), s] ∧ h' = h) (fun _ _ => False) := by
      intro ls
      induction ls with
      | nil =>
        intro x y acc s d0 _ e
        cases e
        exact ⟨s, by simp, rfl⟩
      | cons d ds ihl =>
        intro x y acc s d0 hd e
        obtain ⟨a, b, a', b', e1, e2, rfl, rfl⟩ := goL_cons e
        have hgd := hd d List.mem_cons_self
        refine for_cons ?_
        rw [okS_forF]
        have fin : ∀ (acc' : Int) (s : Slot), acc' = acc + a - 1 → okS (forL (forF T (callN T m) (.one 2) [.ite (.cmp .eq (.ix (.v 2) (.c (.int 0))) (.c (.str "if"))) [.aug 1 (.bin .add (.call 6 [(.ix (.v 2) (.c (.int 2)))]) (.call 6 [(.ix (.v 2) (.c (.int 3)))]))] []]) ds [.val d0, .val (.int acc'), s] h) (fun Γ h' => ∃ s, Γ = [.val d0, .val (.int (acc + (a + a' : Nat) - (d :: ds).length)), s] ∧ h' = h) (fun _ _ => False) := fun acc' s ea => by
          refine (ihl a' b' acc' s d0 (fun x hx => hd x (List.mem_cons_of_mem _ hx)) e2).mono (fun Γ h' ⟨s, q1, q2⟩ => ⟨s, ?_, q2⟩) fun _ _ q => q
          rw [q1, ea]
          have : acc + (a : Int) - 1 + a' - ds.length = acc + ((a + a' : Nat) : Int) - ((d :: ds).length : Int) := by
            simp only [List.length_cons]
            omega
          rw [this]
        have hin : ∀ w : Str, (("if" : Str) == w) = false → ∀ l, d = .tup (.str w :: l) → a = 1 → onO (setTg (.one 2) d [.val d0, .val (.int acc), s]) fun Γ => okCs T (callN T m) [.ite (.cmp .eq (.ix (.v 2) (.c (.int 0))) (.c (.str "if"))) [.aug 1 (.bin .add (.call 6 [(.ix (.v 2) (.c (.int 2)))]) (.call 6 [(.ix (.v 2) (.c (.int 3)))]))] []] Γ h (fun Γ h' => okS (forL (forF T (callN T m) (.one 2) [.ite (.cmp .eq (.ix (.v 2) (.c (.int 0))) (.c (.str "if"))) [.aug 1 (.bin .add (.call 6 [(.ix (.v 2) (.c (.int 2)))]) (.call 6 [(.ix (.v 2) (.c (.int 3)))]))] []]) ds Γ h') (fun Γ h' => ∃ s, Γ = [.val d0, .val (.int (acc + (a + a' : Nat) - (d :: ds).length)), s] ∧ h' = h) (fun _ _ => False)) (fun _ _ => False) := fun w hw l ed ea => by
          subst ed
          simp (decide := true) only [setTg, okCs_nil, okCs_cons, okC_asg, okC_own, okC_stIx, okC_aug, okC_app, okC_ex, okC_ret, okC_retN, okC_ite, okC_for, okE_c, okE_no, okE_v, okE_pk, okE_g, okE_bin, okE_neg, okE_cmp, okE_chain, okE_and, okE_or, okE_not, okE_ite, okE_isi, okE_b1, okE_b2, okE_bm, okE_call, okE_ix, okE_sl, okE_tup, okE_lst, okE_dct, okE_new, okE_lc, okEs_nil, okEs_cons, onVal_val, onOwn_own, onO_some, onO_none, onO_map, onB_bl, onCell_lst, onCell_dct, onInts_int, okO_ok, List.getElem?_cons_zero, List.getElem?_cons_succ, List.set_cons_zero, List.set_cons_succ, isNo, boundC, ix_tup, at0, c_eqS, hw]
          simp only [Bool.false_eq_true, if_false]
          exact fin acc _ (by subst ea; omega)
        rcases line_cases e1 with ⟨q | q, _, ea, _⟩ | ⟨q, r, ed, _, _, ea, _⟩ | ⟨q, r, ed, _, _, ea, _⟩ | ⟨q, r, ed, _, _, ea, _⟩ | ⟨q, r, t, x, y, x', y', ed, _, _, s1, s2, ea, _⟩
        · exact hin "end" (by decide +kernel) _ q ea
        · exact hin "drop" (by decide +kernel) _ q ea
        · exact hin "get" (by decide +kernel) _ ed ea
        · exact hin "put" (by decide +kernel) _ ed ea
        · exact hin "let" (by decide +kernel) _ ed ea
        · subst ed
          cases k with
          | zero => exact (good0 hgd).elim
          | succ j =>
            obtain ⟨_, hp⟩ := good_tup hgd
            have c1 := fun h => ih r (good_mono (hp r (by simp))) (ifs + 1) x y s1 m h (by omega)
            have c2 := fun h => ih t (good_mono (hp t (by simp))) (ifs + 1) x' y' s2 m h (by omega)
            have q1 : (("if" : Str) == "if") = true := by decide +kernel
            simp (decide := true) only [setTg, okCs_nil, okCs_cons, okC_asg, okC_own, okC_stIx, okC_aug, okC_app, okC_ex, okC_ret, okC_retN, okC_ite, okC_for, okE_c, okE_no, okE_v, okE_pk, okE_g, okE_bin, okE_neg, okE_cmp, okE_chain, okE_and, okE_or, okE_not, okE_ite, okE_isi, okE_b1, okE_b2, okE_bm, okE_call, okE_ix, okE_sl, okE_tup, okE_lst, okE_dct, okE_new, okE_lc, okEs_nil, okEs_cons, onVal_val, onOwn_own, onO_some, onO_none, onO_map, onB_bl, onCell_lst, onCell_dct, onInts_int, okO_ok, List.getElem?_cons_zero, List.getElem?_cons_succ, List.set_cons_zero, List.set_cons_succ, isNo, boundC, ix_tup, at0, at2, at3, c_eqS, q1, c1, c2, b_add]
            simp only [if_true]
            exact fin _ _ (by omega)
    refine (key ls x y ls.length .no (.tup ls) hd e).mono (fun Γ h' ⟨s, q1, q2⟩ => ?_) fun _ _ q => q.elim
    subst q1 q2
    simp (decide := true) only [okCs_nil, okCs_cons, okC_asg, okC_own, okC_stIx, okC_aug, okC_app, okC_ex, okC_ret, okC_retN, okC_ite, okC_for, okE_c, okE_no, okE_v, okE_pk, okE_g, okE_bin, okE_neg, okE_cmp, okE_chain, okE_and, okE_or, okE_not, okE_ite, okE_isi, okE_b1, okE_b2, okE_bm, okE_call, okE_ix, okE_sl, okE_tup, okE_lst, okE_dct, okE_new, okE_lc, okEs_nil, okEs_cons, onVal_val, onOwn_own, onO_some, onO_none, onO_map, onB_bl, onCell_lst, onCell_dct, onInts_int, okO_ok, List.getElem?_cons_zero, List.getElem?_cons_succ, List.set_cons_zero, List.set_cons_succ, isNo, boundC]
    refine ⟨?_, trivial⟩
    congr 1
    omega
end K81

set_option linter.all false
set_option Elab.async false
set_option maxRecDepth 100000
set_option maxHeartbeats 4000000
namespace K81
open PySem DC
def bdA : List CS := [.ite (.cmp .eq (.ix (.v 2) (.c (.int 0))) (.c (.str "if"))) [.aug 1 (.bin .add (.call 7 [(.ix (.v 2) (.c (.int 2)))]) (.call 7 [(.ix (.v 2) (.c (.int 3)))]))] [.ite (.cmp .isin (.ix (.v 2) (.c (.int 0))) (.tup [(.c (.str "get")), (.c (.str "put"))])) [.aug 1 (.c (.int 1))] []]]
theorem count_asked : ∀ (k : Nat) (d : D), good k d → ∀ (ifs : Int) (x y : Nat), linesC k ifs d = some (x, y) → ∀ (n : Nat) (h : List Cell), k + 2 ≤ n → callN T n 7 [d] h = some (.ok (.int y) h) := by
  intro k
  induction k with
  | zero => intro d hg ifs x y e; cases e
  | succ k ih =>
    intro d hg ifs x y e n h hn
    obtain ⟨m, rfl⟩ : ∃ m, n = m + 1 := ⟨n - 1, by omega⟩
    cases d <;> first | (cases e; done) | skip
    rename_i ls
    obtain ⟨hz, hd⟩ := good_tup hg
    refine ok_eq (ok_call (n := m) (F := ⟨1, 3, b7⟩) rfl rfl ?_)
    show okCs T (callN T m) b7 [.val (.tup ls), .no, .no] h _ _
    simp (decide := true) only [b7, okCs_nil, okCs_cons, okC_asg, okC_own, okC_stIx, okC_aug, okC_app, okC_ex, okC_ret, okC_retN, okC_ite, okC_for, okE_c, okE_no, okE_v, okE_pk, okE_g, okE_bin, okE_neg, okE_cmp, okE_chain, okE_and, okE_or, okE_not, okE_ite, okE_isi, okE_b1, okE_b2, okE_bm, okE_call, okE_ix, okE_sl, okE_tup, okE_lst, okE_dct, okE_new, okE_lc, okEs_nil, okEs_cons, onVal_val, onOwn_own, onO_some, onO_none, onO_map, onB_bl, onCell_lst, onCell_dct, onInts_int, okO_ok, List.getElem?_cons_zero, List.getElem?_cons_succ, List.set_cons_zero, List.set_cons_succ, isNo, boundC, itemsOf]
    have e : goL (lineC k (linesC k) ifs) ls = some (x, y) := e
    have key : ∀ (ls : List D) (x y : Nat) (acc : Int) (s : Slot) (d0 : D), (∀ d ∈ ls, good k d) → goL (lineC k (linesC k) ifs) ls = some (x, y) →
        okS (forL (forF T (callN T m) (.one 2) bdA) ls [.val d0, .val (.int acc), s] h) (fun Γ h' => ∃ s, Γ = [.val d0, .val (.int (acc + y)), s] ∧ h' = h) (fun _ _ => False) := by
      intro ls
      induction ls with
      | nil =>
        intro x y acc s d0 _ e
        cases e
        exact ⟨s, by simp, rfl⟩
      | cons d ds ihl =>
        intro x y acc s d0 hd e
        obtain ⟨a, b, a', b', e1, e2, rfl, rfl⟩ := goL_cons e
        have hgd := hd d List.mem_cons_self
        refine for_cons ?_
        rw [okS_forF]
        have fin : ∀ (acc' : Int) (s : Slot), acc' = acc + b → okS (forL (forF T (callN T m) (.one 2) bdA) ds [.val d0, .val (.int acc'), s] h) (fun Γ h' => ∃ s, Γ = [.val d0, .val (.int (acc + (b + b' : Nat))), s] ∧ h' = h) (fun _ _ => False) := fun acc' s ea => by
          refine (ihl a' b' acc' s d0 (fun x hx => hd x (List.mem_cons_of_mem _ hx)) e2).mono (fun Γ h' ⟨s, q1, q2⟩ => ⟨s, ?_, q2⟩) fun _ _ q => q
          rw [q1, ea]
          have : acc + (b : Int) + b' = acc + ((b + b' : Nat) : Int) := by omega
          rw [this]
        have hin : ∀ w : Str, (("if" : Str) == w) = false → ∀ l, d = .tup (.str w :: l) → b = (if inS ["get", "put"] (.str w) = true then 1 else 0) → onO (setTg (.one 2) d [.val d0, .val (.int acc), s]) fun Γ => okCs T (callN T m) bdA Γ h (fun Γ h' => okS (forL (forF T (callN T m) (.one 2) bdA) ds Γ h') (fun Γ h' => ∃ s, Γ = [.val d0, .val (.int (acc + (b + b' : Nat))), s] ∧ h' = h) (fun _ _ => False)) (fun _ _ => False) := fun w hw l ed ea => by
          subst ed
          simp (decide := true) only [bdA, setTg, okCs_nil, okCs_cons, okC_asg, okC_own, okC_stIx, okC_aug, okC_app, okC_ex, okC_ret, okC_retN, okC_ite, okC_for, okE_c, okE_no, okE_v, okE_pk, okE_g, okE_bin, okE_neg, okE_cmp, okE_chain, okE_and, okE_or, okE_not, okE_ite, okE_isi, okE_b1, okE_b2, okE_bm, okE_call, okE_ix, okE_sl, okE_tup, okE_lst, okE_dct, okE_new, okE_lc, okEs_nil, okEs_cons, onVal_val, onOwn_own, onO_some, onO_none, onO_map, onB_bl, onCell_lst, onCell_dct, onInts_int, okO_ok, List.getElem?_cons_zero, List.getElem?_cons_succ, List.set_cons_zero, List.set_cons_succ, isNo, boundC, ix_tup, at0, c_eqS, hw, c_inGP]
          simp only [Bool.false_eq_true, if_false]
          refine ⟨by decide, ?_⟩
          by_cases q : inS ["get", "put"] (.str w) = true
          · rw [if_pos q] at ea
            rw [if_pos q]
            exact fin (acc + 1) _ (by subst ea; rfl)
          · rw [if_neg q] at ea
            rw [if_neg q]
            exact fin acc _ (by subst ea; omega)
        rcases line_cases e1 with ⟨q | q, _, _, eb⟩ | ⟨q, r, ed, _, _, _, eb⟩ | ⟨q, r, ed, _, _, _, eb⟩ | ⟨q, r, ed, _, _, _, eb⟩ | ⟨q, r, t, x, y, x', y', ed, _, _, s1, s2, _, eb⟩
        · exact hin "end" (by decide +kernel) _ q (by rw [eb, if_neg (by decide +kernel)])
        · exact hin "drop" (by decide +kernel) _ q (by rw [eb, if_neg (by decide +kernel)])
        · exact hin "get" (by decide +kernel) _ ed (by rw [eb, if_pos (by decide +kernel)])
        · exact hin "put" (by decide +kernel) _ ed (by rw [eb, if_pos (by decide +kernel)])
        · exact hin "let" (by decide +kernel) _ ed (by rw [eb, if_neg (by decide +kernel)])
        · subst ed
          cases k with
          | zero => exact (good0 hgd).elim
          | succ j =>
            obtain ⟨_, hp⟩ := good_tup hgd
            have c1 := fun h => ih r (good_mono (hp r (by simp))) (ifs + 1) x y s1 m h (by omega)
            have c2 := fun h => ih t (good_mono (hp t (by simp))) (ifs + 1) x' y' s2 m h (by omega)
            have q1 : (("if" : Str) == "if") = true := by decide +kernel
            simp (decide := true) only [bdA, setTg, okCs_nil, okCs_cons, okC_asg, okC_own, okC_stIx, okC_aug, okC_app, okC_ex, okC_ret, okC_retN, okC_ite, okC_for, okE_c, okE_no, okE_v, okE_pk, okE_g, okE_bin, okE_neg, okE_cmp, okE_chain, okE_and, okE_or, okE_not, okE_ite, okE_isi, okE_b1, okE_b2, okE_bm, okE_call, okE_ix, okE_sl, okE_tup, okE_lst, okE_dct, okE_new, okE_lc, okEs_nil, okEs_cons, onVal_val, onOwn_own, onO_some, onO_none, onO_map, onB_bl, onCell_lst, onCell_dct, onInts_int, okO_ok, List.getElem?_cons_zero, List.getElem?_cons_succ, List.set_cons_zero, List.set_cons_succ, isNo, boundC, ix_tup, at0, at2, at3, c_eqS, q1, c1, c2, b_add]
            simp only [if_true]
            exact fin _ _ (by omega)
    refine (key ls x y 0 .no (.tup ls) hd e).mono (fun Γ h' ⟨s, q1, q2⟩ => ?_) fun _ _ q => q.elim
    subst q1 q2
    simp (decide := true) only [okCs_nil, okCs_cons, okC_asg, okC_own, okC_stIx, okC_aug, okC_app, okC_ex, okC_ret, okC_retN, okC_ite, okC_for, okE_c, okE_no, okE_v, okE_pk, okE_g, okE_bin, okE_neg, okE_cmp, okE_chain, okE_and, okE_or, okE_not, okE_ite, okE_isi, okE_b1, okE_b2, okE_bm, okE_call, okE_ix, okE_sl, okE_tup, okE_lst, okE_dct, okE_new, okE_lc, okEs_nil, okEs_cons, onVal_val, onOwn_own, onO_some, onO_none, onO_map, onB_bl, onCell_lst, onCell_dct, onInts_int, okO_ok, List.getElem?_cons_zero, List.getElem?_cons_succ, List.set_cons_zero, List.set_cons_succ, isNo, boundC]
    refine ⟨?_, trivial⟩
    congr 1
    omega
/-- a good program -/
def progB (k : Nat) (d : D) : Bool := match linesC k 0 d with
  | some (x, y) => decide (1 ≤ x) && decide (x ≤ 16) && decide (y ≤ 8)
  | none => false
theorem is_program (k : Nat) (d : D) (hg : good k d) (n : Nat) (h : List Cell) (hn : 2 * k + 7 ≤ n) : callN T n 8 [d] h = some (.ok (.bl (progB k d)) h) := by
  obtain ⟨m, rfl⟩ : ∃ m, n = m + 1 := ⟨n - 1, by omega⟩
  refine ok_eq (ok_call (n := m) (F := ⟨1, 1, b8⟩) rfl rfl ?_)
  show okCs T (callN T m) b8 [.val d] h _ _
  simp (decide := true) only [b8, okCs_nil, okCs_cons, okC_asg, okC_own, okC_stIx, okC_aug, okC_app, okC_ex, okC_ret, okC_retN, okC_ite, okC_for, okE_c, okE_no, okE_v, okE_pk, okE_g, okE_bin, okE_neg, okE_cmp, okE_chain, okE_and, okE_or, okE_not, okE_ite, okE_isi, okE_b1, okE_b2, okE_bm, okE_call, okE_ix, okE_sl, okE_tup, okE_lst, okE_dct, okE_new, okE_lc, okEs_nil, okEs_cons, onVal_val, onOwn_own, onO_some, onO_none, onO_map, onB_bl, onCell_lst, onCell_dct, onInts_int, okO_ok, List.getElem?_cons_zero, List.getElem?_cons_succ, List.set_cons_zero, List.set_cons_succ, isNo, boundC, are_lines k d hg 0 m h (by omega), G8, G9]
  cases e : linesC k 0 d with
  | none => simp [progB, e]
  | some p =>
    obtain ⟨x, y⟩ := p
    have c1 := fun h => count_lines k d hg 0 x y e m h (by omega)
    have c2 := fun h => count_asked k d hg 0 x y e m h (by omega)
    simp (decide := true) only [Option.isSome, c1, c2, okO_ok, c_le, onO_some, onB_bl, progB, e]
    by_cases q1 : 1 ≤ x <;> by_cases q2 : x ≤ 16 <;> by_cases q3 : y ≤ 8 <;> simp [q1, q2, q3] <;> omega
end K81

set_option linter.all false
set_option Elab.async false
set_option maxRecDepth 100000
set_option maxHeartbeats 4000000
namespace K81
open PySem DC
theorem c_keptL {h : List Cell} {d : D} (hd : plain1 d = true) : cmpD .isin h d (.lst [(.str "get"), (.str "put"), (.str "let"), (.str "if"), (.str "else"), (.str "fi"), (.str "end"), (.str "drop")]) = some (.bl (inS keptW d)) := by
  have e : inH h d (.lst [(.str "get"), (.str "put"), (.str "let"), (.str "if"), (.str "else"), (.str "fi"), (.str "end"), (.str "drop")]) = some (inS keptW d) := inH_lst (ss := keptW) hd
  unfold cmpD
  simp only [e, Option.map]
theorem c_nsignL {h : List Cell} {d : D} (hd : plain1 d = true) : cmpD .notin h d (.lst [(.str "+"), (.str "-"), (.str "*"), (.str "<"), (.str "=")]) = some (.bl (!inS signW d)) := by
  have e : inH h d (.lst [(.str "+"), (.str "-"), (.str "*"), (.str "<"), (.str "=")]) = some (inS signW d) := inH_lst (ss := signW) hd
  unfold cmpD
  simp only [e, Option.map]
theorem in2 {h : List Cell} {a b i : Int} : inH h (.int i) (.lst [.int a, .int b]) = some (a == i || b == i) := by
  unfold inH
  simp only [seqOf]
  rw [if_pos (by show min 0 0 ≤ 100; omega)]
  simp [inL, eqD]
theorem c_in2 {h : List Cell} {a b i : Int} : cmpD .isin h (.int i) (.lst [.int a, .int b]) = some (.bl (decide (a = i ∨ b = i))) := by
  unfold cmpD
  simp only [in2, Option.map]
  congr 2
  rw [Bool.eq_iff_iff]
  simp
theorem c_nin2 {h : List Cell} {a b i : Int} : cmpD .notin h (.int i) (.lst [.int a, .int b]) = some (.bl (!decide (a = i ∨ b = i))) := by
  unfold cmpD
  simp only [in2, Option.map]
  congr 3
  rw [Bool.eq_iff_iff]
  simp
theorem eq_nil {h : List Cell} {l : List D} : cmpD .eq h (.lst l) (.lst []) = some (.bl l.isEmpty) := by
  have : eqH h (.lst l) (.lst []) = some l.isEmpty := by
    unfold eqH
    rw [if_pos (by show min (D.lst l).depth 1 ≤ 100; omega)]
    cases l <;> simp [eqD, eqZ]
  unfold cmpD
  simp only [this, Option.map]
theorem c_letter {h : List Cell} {c : Nat} : cmpD .notin h (.str ⟨#[c]⟩) (.str "abcdefghijklmnopqrstuvwxyz") = some (.bl (!decide (c ∈ letters))) := rfl
def notL : D → Bool
  | .str y => !(y.cps.toList.all fun c => decide (c ∈ letters))
  | _ => false
theorem notL1 (c : Nat) : notL (.str ⟨#[c]⟩) = !decide (c ∈ letters) := by simp [notL]
theorem filter_nil : ∀ {l : List Nat}, ((l.map fun c => D.str ⟨#[c]⟩).filter notL).isEmpty = l.all fun c => decide (c ∈ letters)
  | [] => rfl
  | c :: l => by
    have ih := filter_nil (l := l)
    rw [List.map_cons, List.filter_cons, notL1, List.all_cons]
    by_cases qc : c ∈ letters
    · simp only [qc, decide_true, Bool.not_true, Bool.false_eq_true, if_false, Bool.true_and]
      exact ih
    · simp only [qc, decide_false, Bool.not_false, if_true, Bool.false_and]
      rfl
theorem law_label (d : D) (hd : plain1 d = true) (n : Nat) (hn : 1 ≤ n) (h : List Cell) : callN T n 16 [d] h = some (.ok (.bl (labelB d)) h) := by
  obtain ⟨m, rfl⟩ : ∃ m, n = m + 1 := ⟨n - 1, by omega⟩
  refine ok_eq (ok_call (F := ⟨1, 2, b16⟩) rfl rfl ?_)
  show okCs T (callN T m) b16 [.val d, .no] h _ _
  cases d with
  | str z =>
    have hl : z.length = z.cps.toList.length := by simp [Str.length]
    simp (decide := true) only [b16, okCs_nil, okCs_cons, okC_asg, okC_own, okC_stIx, okC_aug, okC_app, okC_ex, okC_ret, okC_retN, okC_ite, okC_for, okE_c, okE_no, okE_v, okE_pk, okE_g, okE_bin, okE_neg, okE_cmp, okE_chain, okE_and, okE_or, okE_not, okE_ite, okE_isi, okE_b1, okE_b2, okE_bm, okE_call, okE_ix, okE_sl, okE_tup, okE_lst, okE_dct, okE_new, okE_lc, okEs_nil, okEs_cons, onVal_val, onOwn_own, onO_some, onO_none, onO_map, onB_bl, onCell_lst, onCell_dct, onInts_int, okO_ok, List.getElem?_cons_zero, List.getElem?_cons_succ, List.set_cons_zero, List.set_cons_succ, isNo, boundC, isiD, b1D, c_lt, c_keptL (d := .str z) rfl, itemsOf]
    by_cases h1 : 1 ≤ z.length
    · by_cases h2 : z.length ≤ 4
      · have h3 : (0 : Int) < (z.length : Int) := by omega
        have h4 : (z.length : Int) < 5 := by omega
        simp (decide := true) only [h3, h4, onO_some, onB_bl]
        by_cases q : inS keptW (.str z) = true
        · simp [q, labelB]
        · have e : lcL (lcF1 T (callN T m) (.one 1) [1] (.cmp .notin (.v 1) (.c (.str "abcdefghijklmnopqrstuvwxyz"))) (.v 1) [.val (.str z), .no]) (z.cps.toList.map fun c => .str ⟨#[c]⟩) h = some (.ok ((z.cps.toList.map fun c => D.str ⟨#[c]⟩).filter notL) h) :=
            lc_filter fun d hd => by
              obtain ⟨c, hc, rfl⟩ := List.mem_map.mp hd
              rw [okO_lcF1]
              rw [notL1]
              simp (decide := true) only [okCs_nil, okCs_cons, okC_asg, okC_own, okC_stIx, okC_aug, okC_app, okC_ex, okC_ret, okC_retN, okC_ite, okC_for, okE_c, okE_no, okE_v, okE_pk, okE_g, okE_bin, okE_neg, okE_cmp, okE_chain, okE_and, okE_or, okE_not, okE_ite, okE_isi, okE_b1, okE_b2, okE_bm, okE_call, okE_ix, okE_sl, okE_tup, okE_lst, okE_dct, okE_new, okE_lc, okEs_nil, okEs_cons, onVal_val, onOwn_own, onO_some, onO_none, onO_map, onB_bl, onCell_lst, onCell_dct, onInts_int, okO_ok, List.getElem?_cons_zero, List.getElem?_cons_succ, List.set_cons_zero, List.set_cons_succ, isNo, boundC, setTg, wipeS, c_letter]
              by_cases qc : c ∈ letters <;> simp [qc]
          have h5 : z.cps.toList.length ≤ maxLen := by rw [← hl]; show _ ≤ 16777216; omega
          have h6 : ((z.cps.toList.map fun c => D.str ⟨#[c]⟩).filter notL).length ≤ maxLen := Nat.le_trans (List.length_filter_le _ _) (by rw [List.length_map]; exact h5)
          rw [e]
          simp (decide := true) only [q, okCs_nil, okCs_cons, okC_asg, okC_own, okC_stIx, okC_aug, okC_app, okC_ex, okC_ret, okC_retN, okC_ite, okC_for, okE_c, okE_no, okE_v, okE_pk, okE_g, okE_bin, okE_neg, okE_cmp, okE_chain, okE_and, okE_or, okE_not, okE_ite, okE_isi, okE_b1, okE_b2, okE_bm, okE_call, okE_ix, okE_sl, okE_tup, okE_lst, okE_dct, okE_new, okE_lc, okEs_nil, okEs_cons, onVal_val, onOwn_own, onO_some, onO_none, onO_map, onB_bl, onCell_lst, onCell_dct, onInts_int, okO_ok, List.getElem?_cons_zero, List.getElem?_cons_succ, List.set_cons_zero, List.set_cons_succ, isNo, boundC, eq_nil, filter_nil]
          refine ⟨trivial, rfl, h6, ?_⟩
          simp [labelB, keyB, keyS, h1, h2, q]
      · have h3 : (0 : Int) < (z.length : Int) := by omega
        have h4 : ¬ (z.length : Int) < 5 := by omega
        simp (decide := true) [h3, h4, labelB, keyB, keyS, h1, h2]
    · have h3 : ¬ (0 : Int) < (z.length : Int) := by omega
      simp only [h3, decide_false, onB_bl, onO_some, Bool.false_eq_true, if_false, Bool.not_false, if_true, okCs_nil, okCs_cons, okC_asg, okC_own, okC_stIx, okC_aug, okC_app, okC_ex, okC_ret, okC_retN, okC_ite, okC_for, okE_c, okE_no, okE_v, okE_pk, okE_g, okE_bin, okE_neg, okE_cmp, okE_chain, okE_and, okE_or, okE_not, okE_ite, okE_isi, okE_b1, okE_b2, okE_bm, okE_call, okE_ix, okE_sl, okE_tup, okE_lst, okE_dct, okE_new, okE_lc, okEs_nil, okEs_cons, onVal_val, onOwn_own, onO_some, onO_none, onO_map, onB_bl, onCell_lst, onCell_dct, onInts_int, okO_ok, List.getElem?_cons_zero, List.getElem?_cons_succ, List.set_cons_zero, List.set_cons_succ, isNo, boundC, Bool.not_true]
      simp [labelB, keyB, keyS, h1]
  | ref _ => cases hd
  | scr _ => cases hd
  | _ => simp (decide := true) [b16, okCs_nil, okCs_cons, okC_asg, okC_own, okC_stIx, okC_aug, okC_app, okC_ex, okC_ret, okC_retN, okC_ite, okC_for, okE_c, okE_no, okE_v, okE_pk, okE_g, okE_bin, okE_neg, okE_cmp, okE_chain, okE_and, okE_or, okE_not, okE_ite, okE_isi, okE_b1, okE_b2, okE_bm, okE_call, okE_ix, okE_sl, okE_tup, okE_lst, okE_dct, okE_new, okE_lc, okEs_nil, okEs_cons, onVal_val, onOwn_own, onO_some, onO_none, onO_map, onB_bl, onCell_lst, onCell_dct, onInts_int, okO_ok, List.getElem?_cons_zero, List.getElem?_cons_succ, List.set_cons_zero, List.set_cons_succ, isNo, boundC, isiD, labelB, keyB]
end K81

set_option linter.all false
set_option Elab.async false
set_option maxRecDepth 100000
set_option maxHeartbeats 4000000
namespace K81
open PySem DC
theorem int_bl {h : List Cell} {b : Bool} : b1D .int h (.bl b) = some (.int (if b = true then 1 else 0)) := rfl
theorem max2 {h : List Cell} {a b : Nat} : b1D .max h (.lst [.int a, .int b]) = some (.int (max a b : Nat)) := by
  show some (D.int (if ((b : Int)) ≤ (a : Int) then (a : Int) else (b : Int))) = _
  congr 2
  split <;> omega
theorem isi_int {h : List Cell} {d : D} (hd : plain1 d = true) : isiD .int h d = some (match d with | .int _ => true | .bl _ => true | _ => false) := by
  cases d <;> first | rfl | (cases hd)
theorem isi_bool {h : List Cell} {d : D} (hd : plain1 d = true) : isiD .bool h d = some (match d with | .bl _ => true | _ => false) := by
  cases d <;> first | rfl | (cases hd)
theorem nb_of {a : D} (h : isS "number" a = true) : isS "box" a = false := by
  rw [isS_eq h]
  decide +kernel
theorem law_deep : ∀ (k : Nat) (d : D), good k d → ∀ (n : Nat) (h : List Cell), k + 3 ≤ n → callN T n 17 [d] h = some (.ok (.int (sumD k d)) h)
  | k, d, hg, n, h, hn => by
    obtain ⟨m, rfl⟩ : ∃ m, n = m + 1 := ⟨n - 1, by omega⟩
    refine ok_eq (ok_call (n := m) (F := ⟨1, 2, b17⟩) rfl rfl ?_)
    show okCs T (callN T m) b17 [.val d, .no] h _ _
    simp (decide := true) only [b17, okCs_nil, okCs_cons, okC_asg, okC_own, okC_stIx, okC_aug, okC_app, okC_ex, okC_ret, okC_retN, okC_ite, okC_for, okE_c, okE_no, okE_v, okE_pk, okE_g, okE_bin, okE_neg, okE_cmp, okE_chain, okE_and, okE_or, okE_not, okE_ite, okE_isi, okE_b1, okE_b2, okE_bm, okE_call, okE_ix, okE_sl, okE_tup, okE_lst, okE_dct, okE_new, okE_lc, okEs_nil, okEs_cons, onVal_val, onOwn_own, onO_some, onO_none, onO_map, onB_bl, onCell_lst, onCell_dct, onInts_int, okO_ok, List.getElem?_cons_zero, List.getElem?_cons_succ, List.set_cons_zero, List.set_cons_succ, isNo, boundC, isi_tup hg]
    cases d with
    | tup ds =>
      simp only [Bool.not_true, Bool.false_eq_true, if_false, l_tup, onO_some, onB_bl, c_nin2]
      cases k with
      | zero => exact (good0 hg).elim
      | succ k =>
        obtain ⟨hz, hd⟩ := good_tup hg
        match ds, hz, hd with
        | [], hz, hd => simp (decide := true) [sumD]
        | [a], hz, hd => simp (decide := true) [sumD]
        | [a, b], hz, hd =>
          have pa := (hd a (by simp)).p1
          have pb := (hd b (by simp)).p1
          have e2 := law_label b pb m (by omega)
          simp (decide := true) only [c_eq, okCs_nil, okCs_cons, okC_asg, okC_own, okC_stIx, okC_aug, okC_app, okC_ex, okC_ret, okC_retN, okC_ite, okC_for, okE_c, okE_no, okE_v, okE_pk, okE_g, okE_bin, okE_neg, okE_cmp, okE_chain, okE_and, okE_or, okE_not, okE_ite, okE_isi, okE_b1, okE_b2, okE_bm, okE_call, okE_ix, okE_sl, okE_tup, okE_lst, okE_dct, okE_new, okE_lc, okEs_nil, okEs_cons, onVal_val, onOwn_own, onO_some, onO_none, onO_map, onB_bl, onCell_lst, onCell_dct, onInts_int, okO_ok, List.getElem?_cons_zero, List.getElem?_cons_succ, List.set_cons_zero, List.set_cons_succ, isNo, boundC, ix_tup, at0, at1, c_eqs pa, e2, isi_int pb, isi_bool pb, int_bl, sumD, List.length_cons, List.length_nil]
          by_cases q0 : isS "number" a = true
          · have q1 := nb_of q0
            cases b with
            | int i => by_cases q2 : 0 ≤ i <;> by_cases q3 : i < 1000 <;> simp (decide := true) [q0, q1, q2, q3, c_le, c_lt, valueB, onO, onB, int_bl]
            | _ => simp (decide := true) [q0, q1, valueB, onO, onB, int_bl]
          · by_cases q1 : isS "box" a = true <;> by_cases q2 : labelB b = true <;> simp (decide := true) [q0, q1, q2]
        | [a, b, c], hz, hd =>
          have pa := (hd a (by simp)).p1
          have e1 := fun h => law_deep k b (hd b (by simp)) m h (by omega)
          have e2 := fun h => law_deep k c (hd c (by simp)) m h (by omega)
          simp (decide := true) only [c_eq, okCs_nil, okCs_cons, okC_asg, okC_own, okC_stIx, okC_aug, okC_app, okC_ex, okC_ret, okC_retN, okC_ite, okC_for, okE_c, okE_no, okE_v, okE_pk, okE_g, okE_bin, okE_neg, okE_cmp, okE_chain, okE_and, okE_or, okE_not, okE_ite, okE_isi, okE_b1, okE_b2, okE_bm, okE_call, okE_ix, okE_sl, okE_tup, okE_lst, okE_dct, okE_new, okE_lc, okEs_nil, okEs_cons, onVal_val, onOwn_own, onO_some, onO_none, onO_map, onB_bl, onCell_lst, onCell_dct, onInts_int, okO_ok, List.getElem?_cons_zero, List.getElem?_cons_succ, List.set_cons_zero, List.set_cons_succ, isNo, boundC, ix_tup, at0, at1, at2, c_nsignL pa, e1, e2, c_in2, max2, b_add, sumD, List.length_cons, List.length_nil]
          by_cases q0 : inS signW a = true <;> by_cases q1 : 0 < sumD k b <;> by_cases q2 : 0 < sumD k c <;> simp [q0, q1, q2]
          all_goals (intros; omega)
        | a :: b :: c :: e :: r, hz, hd =>
          have n2 : ¬ ((2 : Int) = ((a :: b :: c :: e :: r).length : Int) ∨ (3 : Int) = ((a :: b :: c :: e :: r).length : Int)) := by simp only [List.length_cons]; omega
          simp (decide := true) only [okCs_nil, okCs_cons, okC_asg, okC_own, okC_stIx, okC_aug, okC_app, okC_ex, okC_ret, okC_retN, okC_ite, okC_for, okE_c, okE_no, okE_v, okE_pk, okE_g, okE_bin, okE_neg, okE_cmp, okE_chain, okE_and, okE_or, okE_not, okE_ite, okE_isi, okE_b1, okE_b2, okE_bm, okE_call, okE_ix, okE_sl, okE_tup, okE_lst, okE_dct, okE_new, okE_lc, okEs_nil, okEs_cons, onVal_val, onOwn_own, onO_some, onO_none, onO_map, onB_bl, onCell_lst, onCell_dct, onInts_int, okO_ok, List.getElem?_cons_zero, List.getElem?_cons_succ, List.set_cons_zero, List.set_cons_succ, isNo, boundC, n2, decide_false, Bool.not_false, if_true, sumD]
          simp
    | _ =>
      simp only [Bool.not_false, if_true]
      cases k <;> simp [sumD]
theorem law_sum (k : Nat) (d : D) (hg : good k d) (n : Nat) (h : List Cell) (hn : k + 4 ≤ n) : callN T n 18 [d] h = some (.ok (.bl (sumOk k d)) h) := by
  obtain ⟨m, rfl⟩ : ∃ m, n = m + 1 := ⟨n - 1, by omega⟩
  refine ok_eq (ok_call (n := m) (F := ⟨1, 1, b18⟩) rfl rfl ?_)
  show okCs T (callN T m) b18 [.val d] h _ _
  have e := fun h => law_deep k d hg m h (by omega)
  simp (decide := true) only [b18, okCs_nil, okCs_cons, okC_asg, okC_own, okC_stIx, okC_aug, okC_app, okC_ex, okC_ret, okC_retN, okC_ite, okC_for, okE_c, okE_no, okE_v, okE_pk, okE_g, okE_bin, okE_neg, okE_cmp, okE_chain, okE_and, okE_or, okE_not, okE_ite, okE_isi, okE_b1, okE_b2, okE_bm, okE_call, okE_ix, okE_sl, okE_tup, okE_lst, okE_dct, okE_new, okE_lc, okEs_nil, okEs_cons, onVal_val, onOwn_own, onO_some, onO_none, onO_map, onB_bl, onCell_lst, onCell_dct, onInts_int, okO_ok, List.getElem?_cons_zero, List.getElem?_cons_succ, List.set_cons_zero, List.set_cons_succ, isNo, boundC, e, c_lt]
  by_cases q1 : 0 < sumD k d <;> by_cases q2 : sumD k d < 5 <;> simp [sumOk, q1, q2] <;> omega
end K81

set_option linter.all false
set_option Elab.async false
set_option maxRecDepth 100000
set_option maxHeartbeats 4000000
namespace K81
open PySem DC
def c1 : CS := .ite (.or (.not (.isi .tuple (.v 4))) (.cmp .eq (.v 4) (.tup []))) [.ret (.c .non)] []
def c2 : CS := .asg 5 (.lst [(.c (.int 1)), (.b1 .int (.cmp .isin (.ix (.v 4) (.c (.int 0))) (.lst [(.c (.str "get")), (.c (.str "put"))])))])
def c3 : CS := .asg 6 (.and (.cmp .isin (.v 4) (.lst [(.tup [(.c (.str "end"))]), (.tup [(.c (.str "drop"))])])) (.cmp .eq (.v 3) (.bin .sub (.b1 .len (.v 0)) (.c (.int 1)))))
def c4 : CS := .ite (.cmp .eq (.b1 .len (.v 4)) (.c (.int 3))) [.asg 6 (.and (.cmp .eq (.ix (.v 4) (.c (.int 0))) (.c (.str "get"))) (.and (.call 16 [(.ix (.v 4) (.c (.int 1)))]) (.call 16 [(.ix (.v 4) (.c (.int 2)))]))),
    .asg 6 (.or (.v 6) (.and (.cmp .isin (.ix (.v 4) (.c (.int 0))) (.lst [(.c (.str "put")), (.c (.str "let"))])) (.and (.call 16 [(.ix (.v 4) (.c (.int 1)))]) (.call 18 [(.ix (.v 4) (.c (.int 2)))]))))] []
def c5 : CS := .ite (.cmp .eq (.b1 .len (.v 4)) (.c (.int 4))) [.asg 7 (.lst [(.call 19 [(.ix (.v 4) (.c (.int 2))), (.bin .add (.v 1) (.c (.int 1)))]), (.call 19 [(.ix (.v 4) (.c (.int 3))), (.bin .add (.v 1) (.c (.int 1)))])]),
    .asg 6 (.and (.cmp .eq (.ix (.v 4) (.c (.int 0))) (.c (.str "if"))) (.and (.cmp .lt (.v 1) (.c (.int 3))) (.and (.call 18 [(.ix (.v 4) (.c (.int 1)))]) (.cmp .notin (.c .non) (.v 7))))),
    .ite (.v 6) [.asg 5 (.lst [(.bin .add (.bin .add (.c (.int 1)) (.ix (.ix (.v 7) (.c (.int 0))) (.c (.int 0)))) (.ix (.ix (.v 7) (.c (.int 1))) (.c (.int 0)))), (.bin .add (.ix (.ix (.v 7) (.c (.int 0))) (.c (.int 1))) (.ix (.ix (.v 7) (.c (.int 1))) (.c (.int 1))))])] []] []
def c6 : CS := .ite (.not (.v 6)) [.ret (.c .non)] []
def c7 : CS := .asg 2 (.lst [(.bin .add (.ix (.v 2) (.c (.int 0))) (.ix (.v 5) (.c (.int 0)))), (.bin .add (.ix (.v 2) (.c (.int 1))) (.ix (.v 5) (.c (.int 1))))])
def bdC : List CS := [c1, c2, c3, c4, c5, c6, c7]
theorem okCs_step {c : Call} {s : CS} {ss : List CS} {Γ Γ' : List Slot} {h h' : List Cell} {N : List Slot → List Cell → Prop} {R : D → List Cell → Prop} (g : okC T c s Γ h (fun Γ1 h1 => Γ1 = Γ' ∧ h1 = h') (fun _ _ => False)) (k : okCs T c ss Γ' h' N R) : okCs T c (s :: ss) Γ h N R := by
  rw [okCs_cons]
  unfold okC at g ⊢
  refine g.mono (fun Γ1 h1 q => ?_) fun _ _ q => q.elim
  obtain ⟨rfl, rfl⟩ := q
  exact k
theorem okCs_out {c : Call} {s : CS} {ss : List CS} {Γ : List Slot} {h : List Cell} {N : List Slot → List Cell → Prop} {R : D → List Cell → Prop} (g : okC T c s Γ h (fun _ _ => False) R) : okCs T c (s :: ss) Γ h N R := by
  rw [okCs_cons]
  unfold okC at g ⊢
  exact g.mono (fun _ _ q => q.elim) fun _ _ q => q
def resL : Option (Nat × Nat) → D
  | none => .non
  | some (x, y) => .lst [.int x, .int y]
theorem eq_tnil {h : List Cell} {l : List D} : cmpD .eq h (.tup l) (.tup []) = some (.bl l.isEmpty) := by
  have : eqH h (.tup l) (.tup []) = some l.isEmpty := by
    unfold eqH
    rw [if_pos (by show min (D.tup l).depth 1 ≤ 100; omega)]
    cases l <;> simp [eqD, eqZ]
  unfold cmpD
  simp only [this, Option.map]
theorem c_inGPl {h : List Cell} {d : D} (hd : plain1 d = true) : cmpD .isin h d (.lst [(.str "get"), (.str "put")]) = some (.bl (inS ["get", "put"] d)) := by
  have e : inH h d (.lst [(.str "get"), (.str "put")]) = some (inS ["get", "put"] d) := inH_lst (ss := ["get", "put"]) hd
  unfold cmpD
  simp only [e, Option.map]
theorem c_inPLl {h : List Cell} {d : D} (hd : plain1 d = true) : cmpD .isin h d (.lst [(.str "put"), (.str "let")]) = some (.bl (inS ["put", "let"] d)) := by
  have e : inH h d (.lst [(.str "put"), (.str "let")]) = some (inS ["put", "let"] d) := inH_lst (ss := ["put", "let"]) hd
  unfold cmpD
  simp only [e, Option.map]
theorem c_inLastL {h : List Cell} {k : Nat} {d : D} (hg : good k d) : cmpD .isin h d (.lst [(.tup [(.str "end")]), (.tup [(.str "drop")])]) = some (.bl (isLast d)) := by
  have e : inH h d (.lst [(.tup [(.str "end")]), (.tup [(.str "drop")])]) = some (isLast d) := (show inH h d (.lst _) = inH h d (.tup _) from rfl).trans (in_last hg)
  unfold cmpD
  simp only [e, Option.map]
theorem c_nonL {h : List Cell} {a b : Option (Nat × Nat)} : cmpD .notin h .non (.lst [resL a, resL b]) = some (.bl (a.isSome && b.isSome)) := by
  have e : inH h .non (.lst [resL a, resL b]) = some (!(a.isSome && b.isSome)) := by
    unfold inH
    simp only [seqOf]
    rw [if_pos (by show min 0 _ ≤ 100; omega)]
    cases a <;> cases b <;> rfl
  unfold cmpD
  simp only [e, Option.map, Bool.not_not]
theorem tailC {c : Call} {gd : Bool} {A B x0 y0 : Int} {d0 d1 : D} {s3 s4 s7 : Slot} {h : List Cell} {N : List Slot → List Cell → Prop} {R : D → List Cell → Prop} (g : if gd = true then N [.val d0, .val d1, .val (.lst [.int (x0 + A), .int (y0 + B)]), s3, s4, .val (.lst [.int A, .int B]), .val (.bl gd), s7] h else R .non h) :
    okCs T c [c6, c7] [.val d0, .val d1, .val (.lst [.int x0, .int y0]), s3, s4, .val (.lst [.int A, .int B]), .val (.bl gd), s7] h N R := by
  cases gd with
  | false =>
    refine okCs_out ?_
    simp (decide := true) only [c6, okCs_nil, okCs_cons, okC_asg, okC_own, okC_stIx, okC_aug, okC_app, okC_ex, okC_ret, okC_retN, okC_ite, okC_for, okE_c, okE_no, okE_v, okE_pk, okE_g, okE_bin, okE_neg, okE_cmp, okE_chain, okE_and, okE_or, okE_not, okE_ite, okE_isi, okE_b1, okE_b2, okE_bm, okE_call, okE_ix, okE_sl, okE_tup, okE_lst, okE_dct, okE_new, okE_lc, okEs_nil, okEs_cons, onVal_val, onOwn_own, onO_some, onO_none, onO_map, onB_bl, onCell_lst, onCell_dct, onInts_int, okO_ok, List.getElem?_cons_zero, List.getElem?_cons_succ, List.set_cons_zero, List.set_cons_succ, isNo, boundC]
    exact g
  | true =>
    refine okCs_step (Γ' := [.val d0, .val d1, .val (.lst [.int x0, .int y0]), s3, s4, .val (.lst [.int A, .int B]), .val (.bl true), s7]) (h' := h) (by simp (decide := true) [c6, okCs_nil, okCs_cons, okC_asg, okC_own, okC_stIx, okC_aug, okC_app, okC_ex, okC_ret, okC_retN, okC_ite, okC_for, okE_c, okE_no, okE_v, okE_pk, okE_g, okE_bin, okE_neg, okE_cmp, okE_chain, okE_and, okE_or, okE_not, okE_ite, okE_isi, okE_b1, okE_b2, okE_bm, okE_call, okE_ix, okE_sl, okE_tup, okE_lst, okE_dct, okE_new, okE_lc, okEs_nil, okEs_cons, onVal_val, onOwn_own, onO_some, onO_none, onO_map, onB_bl, onCell_lst, onCell_dct, onInts_int, okO_ok, List.getElem?_cons_zero, List.getElem?_cons_succ, List.set_cons_zero, List.set_cons_succ, isNo, boundC]) ?_
    simp (decide := true) only [c7, okCs_nil, okCs_cons, okC_asg, okC_own, okC_stIx, okC_aug, okC_app, okC_ex, okC_ret, okC_retN, okC_ite, okC_for, okE_c, okE_no, okE_v, okE_pk, okE_g, okE_bin, okE_neg, okE_cmp, okE_chain, okE_and, okE_or, okE_not, okE_ite, okE_isi, okE_b1, okE_b2, okE_bm, okE_call, okE_ix, okE_sl, okE_tup, okE_lst, okE_dct, okE_new, okE_lc, okEs_nil, okEs_cons, onVal_val, onOwn_own, onO_some, onO_none, onO_map, onB_bl, onCell_lst, onCell_dct, onInts_int, okO_ok, List.getElem?_cons_zero, List.getElem?_cons_succ, List.set_cons_zero, List.set_cons_succ, isNo, boundC, ix_lst, at0, at1, b_add]
    exact ⟨(show (2 : Nat) ≤ 16777216 by decide), g⟩
theorem get_not {p : D} (h : isS "get" p = true) : inS ["put", "let"] p = false ∧ inS ["get", "put"] p = true := by
  rw [isS_eq h]
  decide +kernel
theorem put_more {p : D} (h : inS ["put", "let"] p = true) : inS ["get", "put"] p = isS "put" p := by
  rcases inPL_eq h with e | e <;> subst e <;> decide +kernel
theorem last_more {p : D} (h : (isS "end" p || isS "drop" p) = true) : inS ["get", "put"] p = false := by
  simp only [Bool.or_eq_true] at h
  rcases h with h | h <;> rw [isS_eq h] <;> decide +kernel
theorem lineC_step {k : Nat} (ih : ∀ (d : D), good k d → ∀ (ifs : Int) (n : Nat) (h : List Cell), 2 * k + 6 ≤ n → callN T n 19 [d, .int ifs] h = some (.ok (resL (linesC k ifs d)) h)) {e : D} (hg : good k e) {ifs : Int} {m : Nat} {h : List Cell} (hm : 2 * k + 7 ≤ m) {L : List D} {i x0 y0 : Nat} {s3 s4 s5 s6 s7 : Slot}
    {N : List Slot → List Cell → Prop} {R : D → List Cell → Prop} {last : Bool} (hl : last = decide ((i : Int) = (L.length : Int) - 1))
    (g : match lineC k (linesC k) ifs last e with
      | some (a, b) => ∀ s3 s4 s5 s6 s7, N [.val (.tup L), .val (.int ifs), .val (.lst [.int (x0 + a : Nat), .int (y0 + b : Nat)]), s3, s4, s5, s6, s7] h
      | none => R .non h) :
    okS (forF T (callN T m) (.tup [3, 4]) bdC (.tup [.int i, e]) [.val (.tup L), .val (.int ifs), .val (.lst [.int x0, .int y0]), s3, s4, s5, s6, s7] h) N R := by
  rw [okS_forF]
  show okCs T (callN T m) bdC [.val (.tup L), .val (.int ifs), .val (.lst [.int x0, .int y0]), .val (.int i), .val e, s5, s6, s7] h N R
  cases e with
  | tup ds =>
    cases k with
    | zero => exact (good0 hg).elim
    | succ k =>
      obtain ⟨hz, hd⟩ := good_tup hg
      cases ds with
      | nil =>
        refine okCs_out ?_
        simp (decide := true) only [c1, okCs_nil, okCs_cons, okC_asg, okC_own, okC_stIx, okC_aug, okC_app, okC_ex, okC_ret, okC_retN, okC_ite, okC_for, okE_c, okE_no, okE_v, okE_pk, okE_g, okE_bin, okE_neg, okE_cmp, okE_chain, okE_and, okE_or, okE_not, okE_ite, okE_isi, okE_b1, okE_b2, okE_bm, okE_call, okE_ix, okE_sl, okE_tup, okE_lst, okE_dct, okE_new, okE_lc, okEs_nil, okEs_cons, onVal_val, onOwn_own, onO_some, onO_none, onO_map, onB_bl, onCell_lst, onCell_dct, onInts_int, okO_ok, List.getElem?_cons_zero, List.getElem?_cons_succ, List.set_cons_zero, List.set_cons_succ, isNo, boundC, isi_tup hg, eq_tnil]
        simpa [lineC] using g
      | cons p ds =>
        have pp := (hd p (by simp)).p1
        refine okCs_step (Γ' := [.val (.tup L), .val (.int ifs), .val (.lst [.int x0, .int y0]), .val (.int i), .val (.tup (p :: ds)), s5, s6, s7]) (h' := h) (by simp (decide := true) [c1, okCs_nil, okCs_cons, okC_asg, okC_own, okC_stIx, okC_aug, okC_app, okC_ex, okC_ret, okC_retN, okC_ite, okC_for, okE_c, okE_no, okE_v, okE_pk, okE_g, okE_bin, okE_neg, okE_cmp, okE_chain, okE_and, okE_or, okE_not, okE_ite, okE_isi, okE_b1, okE_b2, okE_bm, okE_call, okE_ix, okE_sl, okE_tup, okE_lst, okE_dct, okE_new, okE_lc, okEs_nil, okEs_cons, onVal_val, onOwn_own, onO_some, onO_none, onO_map, onB_bl, onCell_lst, onCell_dct, onInts_int, okO_ok, List.getElem?_cons_zero, List.getElem?_cons_succ, List.set_cons_zero, List.set_cons_succ, isNo, boundC, isi_tup hg, eq_tnil]) ?_
        refine okCs_step (Γ' := [.val (.tup L), .val (.int ifs), .val (.lst [.int x0, .int y0]), .val (.int i), .val (.tup (p :: ds)), .val (.lst [.int 1, .int (if inS ["get", "put"] p = true then 1 else 0)]), s6, s7]) (h' := h) (by simp (decide := true) [c2, okCs_nil, okCs_cons, okC_asg, okC_own, okC_stIx, okC_aug, okC_app, okC_ex, okC_ret, okC_retN, okC_ite, okC_for, okE_c, okE_no, okE_v, okE_pk, okE_g, okE_bin, okE_neg, okE_cmp, okE_chain, okE_and, okE_or, okE_not, okE_ite, okE_isi, okE_b1, okE_b2, okE_bm, okE_call, okE_ix, okE_sl, okE_tup, okE_lst, okE_dct, okE_new, okE_lc, okEs_nil, okEs_cons, onVal_val, onOwn_own, onO_some, onO_none, onO_map, onB_bl, onCell_lst, onCell_dct, onInts_int, okO_ok, List.getElem?_cons_zero, List.getElem?_cons_succ, List.set_cons_zero, List.set_cons_succ, isNo, boundC, ix_tup, at0, c_inGPl pp, int_bl]) ?_
        refine okCs_step (Γ' := [.val (.tup L), .val (.int ifs), .val (.lst [.int x0, .int y0]), .val (.int i), .val (.tup (p :: ds)), .val (.lst [.int 1, .int (if inS ["get", "put"] p = true then 1 else 0)]), .val (.bl (isLast (.tup (p :: ds)) && last)), s7]) (h' := h) (by
          simp (decide := true) only [c3, okCs_nil, okCs_cons, okC_asg, okC_own, okC_stIx, okC_aug, okC_app, okC_ex, okC_ret, okC_retN, okC_ite, okC_for, okE_c, okE_no, okE_v, okE_pk, okE_g, okE_bin, okE_neg, okE_cmp, okE_chain, okE_and, okE_or, okE_not, okE_ite, okE_isi, okE_b1, okE_b2, okE_bm, okE_call, okE_ix, okE_sl, okE_tup, okE_lst, okE_dct, okE_new, okE_lc, okEs_nil, okEs_cons, onVal_val, onOwn_own, onO_some, onO_none, onO_map, onB_bl, onCell_lst, onCell_dct, onInts_int, okO_ok, List.getElem?_cons_zero, List.getElem?_cons_succ, List.set_cons_zero, List.set_cons_succ, isNo, boundC, c_inLastL hg, l_tup, b_sub, c_eq, hl]
          cases isLast (.tup (p :: ds)) <;> simp) ?_
        match ds, hz, hd, hg, g with
        | [], hz, hd, hg, g =>
          refine okCs_step (Γ' := [.val (.tup L), .val (.int ifs), .val (.lst [.int x0, .int y0]), .val (.int i), .val (.tup [p]), .val (.lst [.int 1, .int (if inS ["get", "put"] p = true then 1 else 0)]), .val (.bl (isLast (.tup [p]) && last)), s7]) (h' := h) (by simp (decide := true) [c4, okCs_nil, okCs_cons, okC_asg, okC_own, okC_stIx, okC_aug, okC_app, okC_ex, okC_ret, okC_retN, okC_ite, okC_for, okE_c, okE_no, okE_v, okE_pk, okE_g, okE_bin, okE_neg, okE_cmp, okE_chain, okE_and, okE_or, okE_not, okE_ite, okE_isi, okE_b1, okE_b2, okE_bm, okE_call, okE_ix, okE_sl, okE_tup, okE_lst, okE_dct, okE_new, okE_lc, okEs_nil, okEs_cons, onVal_val, onOwn_own, onO_some, onO_none, onO_map, onB_bl, onCell_lst, onCell_dct, onInts_int, okO_ok, List.getElem?_cons_zero, List.getElem?_cons_succ, List.set_cons_zero, List.set_cons_succ, isNo, boundC, l_tup, c_eq]) ?_
          refine okCs_step (Γ' := [.val (.tup L), .val (.int ifs), .val (.lst [.int x0, .int y0]), .val (.int i), .val (.tup [p]), .val (.lst [.int 1, .int (if inS ["get", "put"] p = true then 1 else 0)]), .val (.bl (isLast (.tup [p]) && last)), s7]) (h' := h) (by simp (decide := true) [c5, okCs_nil, okCs_cons, okC_asg, okC_own, okC_stIx, okC_aug, okC_app, okC_ex, okC_ret, okC_retN, okC_ite, okC_for, okE_c, okE_no, okE_v, okE_pk, okE_g, okE_bin, okE_neg, okE_cmp, okE_chain, okE_and, okE_or, okE_not, okE_ite, okE_isi, okE_b1, okE_b2, okE_bm, okE_call, okE_ix, okE_sl, okE_tup, okE_lst, okE_dct, okE_new, okE_lc, okEs_nil, okEs_cons, onVal_val, onOwn_own, onO_some, onO_none, onO_map, onB_bl, onCell_lst, onCell_dct, onInts_int, okO_ok, List.getElem?_cons_zero, List.getElem?_cons_succ, List.set_cons_zero, List.set_cons_succ, isNo, boundC, l_tup, c_eq]) ?_
          refine tailC ?_
          by_cases q : (isS "end" p || isS "drop" p) = true
          · have qm := last_more q
            cases last with
            | true =>
              simp only [lineC, q, Bool.true_and, if_true] at g
              simp only [isLast, q, qm, Bool.true_and, if_true, Bool.false_eq_true, if_false]
              exact g _ _ _ _ _
            | false =>
              simp only [lineC, q, Bool.true_and, Bool.false_eq_true, if_false] at g
              simp only [isLast, q, Bool.true_and, Bool.false_eq_true, if_false]
              exact g
          · have q : (isS "end" p || isS "drop" p) = false := by simpa using q
            simp only [lineC, q, Bool.false_and, Bool.false_eq_true, if_false] at g
            simp only [isLast, q, Bool.false_and, Bool.false_eq_true, if_false]
            exact g
        | [q], hz, hd, hg, g =>
          refine okCs_step (Γ' := [.val (.tup L), .val (.int ifs), .val (.lst [.int x0, .int y0]), .val (.int i), .val (.tup [p, q]), .val (.lst [.int 1, .int (if inS ["get", "put"] p = true then 1 else 0)]), .val (.bl false), s7]) (h' := h) (by simp (decide := true) [c4, okCs_nil, okCs_cons, okC_asg, okC_own, okC_stIx, okC_aug, okC_app, okC_ex, okC_ret, okC_retN, okC_ite, okC_for, okE_c, okE_no, okE_v, okE_pk, okE_g, okE_bin, okE_neg, okE_cmp, okE_chain, okE_and, okE_or, okE_not, okE_ite, okE_isi, okE_b1, okE_b2, okE_bm, okE_call, okE_ix, okE_sl, okE_tup, okE_lst, okE_dct, okE_new, okE_lc, okEs_nil, okEs_cons, onVal_val, onOwn_own, onO_some, onO_none, onO_map, onB_bl, onCell_lst, onCell_dct, onInts_int, okO_ok, List.getElem?_cons_zero, List.getElem?_cons_succ, List.set_cons_zero, List.set_cons_succ, isNo, boundC, l_tup, c_eq, isLast]) ?_
          refine okCs_step (Γ' := [.val (.tup L), .val (.int ifs), .val (.lst [.int x0, .int y0]), .val (.int i), .val (.tup [p, q]), .val (.lst [.int 1, .int (if inS ["get", "put"] p = true then 1 else 0)]), .val (.bl false), s7]) (h' := h) (by simp (decide := true) [c5, okCs_nil, okCs_cons, okC_asg, okC_own, okC_stIx, okC_aug, okC_app, okC_ex, okC_ret, okC_retN, okC_ite, okC_for, okE_c, okE_no, okE_v, okE_pk, okE_g, okE_bin, okE_neg, okE_cmp, okE_chain, okE_and, okE_or, okE_not, okE_ite, okE_isi, okE_b1, okE_b2, okE_bm, okE_call, okE_ix, okE_sl, okE_tup, okE_lst, okE_dct, okE_new, okE_lc, okEs_nil, okEs_cons, onVal_val, onOwn_own, onO_some, onO_none, onO_map, onB_bl, onCell_lst, onCell_dct, onInts_int, okO_ok, List.getElem?_cons_zero, List.getElem?_cons_succ, List.set_cons_zero, List.set_cons_succ, isNo, boundC, l_tup, c_eq]) ?_
          exact tailC (by simpa [lineC] using g)
        | [q, r], hz, hd, hg, g =>
          have pq := (hd q (by simp)).p1
          have pr := (hd r (by simp)).p1
          have e1 := law_label q pq m (by omega)
          have e2 := law_label r pr m (by omega)
          have e3 := fun h => law_sum (k + 1) r (good_mono (hd r (by simp))) m h (by omega)
          refine okCs_step (Γ' := [.val (.tup L), .val (.int ifs), .val (.lst [.int x0, .int y0]), .val (.int i), .val (.tup [p, q, r]), .val (.lst [.int 1, .int (if inS ["get", "put"] p = true then 1 else 0)]), .val (.bl ((isS "get" p && (labelB q && labelB r)) || (inS ["put", "let"] p && (labelB q && sumOk (k + 1) r)))), s7]) (h' := h) (by
            by_cases a1 : isS "get" p = true <;> by_cases a2 : labelB q = true <;> by_cases a3 : labelB r = true <;> by_cases a4 : inS ["put", "let"] p = true <;> by_cases a5 : sumOk (k + 1) r = true <;> simp (decide := true) [c4, okCs_nil, okCs_cons, okC_asg, okC_own, okC_stIx, okC_aug, okC_app, okC_ex, okC_ret, okC_retN, okC_ite, okC_for, okE_c, okE_no, okE_v, okE_pk, okE_g, okE_bin, okE_neg, okE_cmp, okE_chain, okE_and, okE_or, okE_not, okE_ite, okE_isi, okE_b1, okE_b2, okE_bm, okE_call, okE_ix, okE_sl, okE_tup, okE_lst, okE_dct, okE_new, okE_lc, okEs_nil, okEs_cons, onVal_val, onOwn_own, onO_some, onO_none, onO_map, onB_bl, onCell_lst, onCell_dct, onInts_int, okO_ok, List.getElem?_cons_zero, List.getElem?_cons_succ, List.set_cons_zero, List.set_cons_succ, isNo, boundC, l_tup, c_eq, ix_tup, at0, at1, at2, c_eqs pp, c_inPLl pp, e1, e2, e3, a1, a2, a3, a4, a5]) ?_
          refine okCs_step (Γ' := [.val (.tup L), .val (.int ifs), .val (.lst [.int x0, .int y0]), .val (.int i), .val (.tup [p, q, r]), .val (.lst [.int 1, .int (if inS ["get", "put"] p = true then 1 else 0)]), .val (.bl ((isS "get" p && (labelB q && labelB r)) || (inS ["put", "let"] p && (labelB q && sumOk (k + 1) r)))), s7]) (h' := h) (by simp (decide := true) [c5, okCs_nil, okCs_cons, okC_asg, okC_own, okC_stIx, okC_aug, okC_app, okC_ex, okC_ret, okC_retN, okC_ite, okC_for, okE_c, okE_no, okE_v, okE_pk, okE_g, okE_bin, okE_neg, okE_cmp, okE_chain, okE_and, okE_or, okE_not, okE_ite, okE_isi, okE_b1, okE_b2, okE_bm, okE_call, okE_ix, okE_sl, okE_tup, okE_lst, okE_dct, okE_new, okE_lc, okEs_nil, okEs_cons, onVal_val, onOwn_own, onO_some, onO_none, onO_map, onB_bl, onCell_lst, onCell_dct, onInts_int, okO_ok, List.getElem?_cons_zero, List.getElem?_cons_succ, List.set_cons_zero, List.set_cons_succ, isNo, boundC, l_tup, c_eq]) ?_
          refine tailC ?_
          by_cases a1 : isS "get" p = true
          · obtain ⟨b1, b2⟩ := get_not a1
            by_cases a2 : (labelB q && labelB r) = true
            · simp only [lineC, a1, a2, if_true] at g
              simp only [a1, a2, b1, b2, Bool.true_and, Bool.true_or, if_true]
              exact g _ _ _ _ _
            · have a2 : (labelB q && labelB r) = false := by simpa using a2
              simp only [lineC, a1, a2, if_true, Bool.false_eq_true, if_false] at g
              simp only [a1, a2, b1, Bool.and_false, Bool.false_and, Bool.or_self, Bool.false_eq_true, if_false]
              exact g
          · have a1 : isS "get" p = false := by simpa using a1
            by_cases a2 : (inS ["put", "let"] p && labelB q && sumOk (k + 1) r) = true
            · have b3 : inS ["put", "let"] p = true := by
                simp only [Bool.and_eq_true] at a2
                exact a2.1.1
              simp only [lineC, a1, a2, if_true, Bool.false_eq_true, if_false] at g
              simp only [a1, Bool.false_and, Bool.false_or, ← Bool.and_assoc, a2, put_more b3, if_true]
              by_cases b4 : isS "put" p = true
              · simp only [b4, if_true] at g ⊢
                exact g _ _ _ _ _
              · simp only [b4, if_false, Bool.false_eq_true] at g ⊢
                exact g _ _ _ _ _
            · have a2 : (inS ["put", "let"] p && labelB q && sumOk (k + 1) r) = false := by simpa using a2
              simp only [lineC, a1, a2, Bool.false_eq_true, if_false] at g
              simp only [a1, Bool.false_and, Bool.false_or, ← Bool.and_assoc, a2, Bool.false_eq_true, if_false]
              exact g
        | [q, r, t], hz, hd, hg, g =>
          have e1 := fun h => law_sum (k + 1) q (good_mono (hd q (by simp))) m h (by omega)
          have e2 := fun h => ih r (good_mono (hd r (by simp))) (ifs + 1) m h (by omega)
          have e3 := fun h => ih t (good_mono (hd t (by simp))) (ifs + 1) m h (by omega)
          refine okCs_step (Γ' := [.val (.tup L), .val (.int ifs), .val (.lst [.int x0, .int y0]), .val (.int i), .val (.tup [p, q, r, t]), .val (.lst [.int 1, .int (if inS ["get", "put"] p = true then 1 else 0)]), .val (.bl false), s7]) (h' := h) (by simp (decide := true) [c4, okCs_nil, okCs_cons, okC_asg, okC_own, okC_stIx, okC_aug, okC_app, okC_ex, okC_ret, okC_retN, okC_ite, okC_for, okE_c, okE_no, okE_v, okE_pk, okE_g, okE_bin, okE_neg, okE_cmp, okE_chain, okE_and, okE_or, okE_not, okE_ite, okE_isi, okE_b1, okE_b2, okE_bm, okE_call, okE_ix, okE_sl, okE_tup, okE_lst, okE_dct, okE_new, okE_lc, okEs_nil, okEs_cons, onVal_val, onOwn_own, onO_some, onO_none, onO_map, onB_bl, onCell_lst, onCell_dct, onInts_int, okO_ok, List.getElem?_cons_zero, List.getElem?_cons_succ, List.set_cons_zero, List.set_cons_succ, isNo, boundC, l_tup, c_eq, isLast]) ?_
          generalize hA : linesC (k + 1) (ifs + 1) r = A at e2 g
          generalize hB : linesC (k + 1) (ifs + 1) t = B at e3 g
          by_cases gd : (isS "if" p && (decide (ifs < 3) && (sumOk (k + 1) q && (A.isSome && B.isSome)))) = true
          · simp only [Bool.and_eq_true, decide_eq_true_eq] at gd
            obtain ⟨a1, a2, a3, a4, a5⟩ := gd
            cases A with
            | none => cases a4
            | some xy =>
              cases B with
              | none => cases a5
              | some xy' =>
                obtain ⟨x, y⟩ := xy
                obtain ⟨x', y'⟩ := xy'
                have nn : cmpD .notin h .non (.lst [resL (some (x, y)), resL (some (x', y'))]) = some (.bl true) := c_nonL
                simp only [resL] at nn e2 e3
                refine okCs_step (Γ' := [.val (.tup L), .val (.int ifs), .val (.lst [.int x0, .int y0]), .val (.int i), .val (.tup [p, q, r, t]), .val (.lst [.int (1 + x + x'), .int (y + y')]), .val (.bl true), .val (.lst [.lst [.int x, .int y], .lst [.int x', .int y']])]) (h' := h) (by
                  simp (decide := true) [c5, okCs_nil, okCs_cons, okC_asg, okC_own, okC_stIx, okC_aug, okC_app, okC_ex, okC_ret, okC_retN, okC_ite, okC_for, okE_c, okE_no, okE_v, okE_pk, okE_g, okE_bin, okE_neg, okE_cmp, okE_chain, okE_and, okE_or, okE_not, okE_ite, okE_isi, okE_b1, okE_b2, okE_bm, okE_call, okE_ix, okE_sl, okE_tup, okE_lst, okE_dct, okE_new, okE_lc, okEs_nil, okEs_cons, onVal_val, onOwn_own, onO_some, onO_none, onO_map, onB_bl, onCell_lst, onCell_dct, onInts_int, okO_ok, List.getElem?_cons_zero, List.getElem?_cons_succ, List.set_cons_zero, List.set_cons_succ, isNo, boundC, l_tup, c_eq, ix_tup, ix_lst, at0, at1, at2, at3, c_eqs pp, c_lt, b_add, e1, e2, e3, nn, a1, a2, a3]) ?_
                refine tailC ?_
                simp only [lineC, a1, a2, a3, hA, hB, decide_true, Bool.and_self, if_true] at g
                simp only [if_true]
                have := g (.val (.int i)) (.val (.tup [p, q, r, t])) (.val (.lst [.int (1 + x + x'), .int (y + y')])) (.val (.bl true)) (.val (.lst [.lst [.int x, .int y], .lst [.int x', .int y']]))
                rw [show (x0 : Int) + (1 + x + x') = ((x0 + (1 + x + x') : Nat) : Int) by omega, show (y0 : Int) + (y + y') = ((y0 + (y + y') : Nat) : Int) by omega]
                exact this
          · have nn : cmpD .notin h .non (.lst [resL A, resL B]) = some (.bl (A.isSome && B.isSome)) := c_nonL
            refine okCs_step (Γ' := [.val (.tup L), .val (.int ifs), .val (.lst [.int x0, .int y0]), .val (.int i), .val (.tup [p, q, r, t]), .val (.lst [.int 1, .int (if inS ["get", "put"] p = true then 1 else 0)]), .val (.bl false), .val (.lst [resL A, resL B])]) (h' := h) (by
              by_cases a1 : isS "if" p = true <;> by_cases a2 : ifs < 3 <;> by_cases a3 : sumOk (k + 1) q = true <;> by_cases a4 : (A.isSome && B.isSome) = true <;> first
                | (exfalso; apply gd; rw [a1, a3, a4]; simp [a2]; done)
                | simp (decide := true) [c5, okCs_nil, okCs_cons, okC_asg, okC_own, okC_stIx, okC_aug, okC_app, okC_ex, okC_ret, okC_retN, okC_ite, okC_for, okE_c, okE_no, okE_v, okE_pk, okE_g, okE_bin, okE_neg, okE_cmp, okE_chain, okE_and, okE_or, okE_not, okE_ite, okE_isi, okE_b1, okE_b2, okE_bm, okE_call, okE_ix, okE_sl, okE_tup, okE_lst, okE_dct, okE_new, okE_lc, okEs_nil, okEs_cons, onVal_val, onOwn_own, onO_some, onO_none, onO_map, onB_bl, onCell_lst, onCell_dct, onInts_int, okO_ok, List.getElem?_cons_zero, List.getElem?_cons_succ, List.set_cons_zero, List.set_cons_succ, isNo, boundC, l_tup, c_eq, ix_tup, at0, at1, at2, at3, c_eqs pp, c_lt, b_add, e1, e2, e3, nn, a1, a2, a3, a4]) ?_
            refine tailC ?_
            simp only [Bool.false_eq_true, if_false]
            have : lineC (k + 1) (linesC (k + 1)) ifs last (.tup [p, q, r, t]) = none := by
              simp only [lineC, hA, hB]
              split
              · rename_i hp
                simp only [Bool.and_eq_true, decide_eq_true_eq] at hp
                cases A with
                | none => rfl
                | some xy =>
                  cases B with
                  | none => rfl
                  | some xy' => exact absurd (by simp [hp.1.1, hp.1.2, hp.2]) gd
              · rfl
            simp only [this] at g
            exact g
        | q :: r :: t :: u :: l, hz, hd, hg, g =>
          have n3 : ((p :: q :: r :: t :: u :: l).length : Int) ≠ 3 := by simp only [List.length_cons]; omega
          have n4 : ((p :: q :: r :: t :: u :: l).length : Int) ≠ 4 := by simp only [List.length_cons]; omega
          refine okCs_step (Γ' := [.val (.tup L), .val (.int ifs), .val (.lst [.int x0, .int y0]), .val (.int i), .val (.tup (p :: q :: r :: t :: u :: l)), .val (.lst [.int 1, .int (if inS ["get", "put"] p = true then 1 else 0)]), .val (.bl false), s7]) (h' := h) (by simp (decide := true) only [c4, okCs_nil, okCs_cons, okC_asg, okC_own, okC_stIx, okC_aug, okC_app, okC_ex, okC_ret, okC_retN, okC_ite, okC_for, okE_c, okE_no, okE_v, okE_pk, okE_g, okE_bin, okE_neg, okE_cmp, okE_chain, okE_and, okE_or, okE_not, okE_ite, okE_isi, okE_b1, okE_b2, okE_bm, okE_call, okE_ix, okE_sl, okE_tup, okE_lst, okE_dct, okE_new, okE_lc, okEs_nil, okEs_cons, onVal_val, onOwn_own, onO_some, onO_none, onO_map, onB_bl, onCell_lst, onCell_dct, onInts_int, okO_ok, List.getElem?_cons_zero, List.getElem?_cons_succ, List.set_cons_zero, List.set_cons_succ, isNo, boundC, l_tup, c_eq, isLast, n3]; simp) ?_
          refine okCs_step (Γ' := [.val (.tup L), .val (.int ifs), .val (.lst [.int x0, .int y0]), .val (.int i), .val (.tup (p :: q :: r :: t :: u :: l)), .val (.lst [.int 1, .int (if inS ["get", "put"] p = true then 1 else 0)]), .val (.bl false), s7]) (h' := h) (by simp (decide := true) only [c5, okCs_nil, okCs_cons, okC_asg, okC_own, okC_stIx, okC_aug, okC_app, okC_ex, okC_ret, okC_retN, okC_ite, okC_for, okE_c, okE_no, okE_v, okE_pk, okE_g, okE_bin, okE_neg, okE_cmp, okE_chain, okE_and, okE_or, okE_not, okE_ite, okE_isi, okE_b1, okE_b2, okE_bm, okE_call, okE_ix, okE_sl, okE_tup, okE_lst, okE_dct, okE_new, okE_lc, okEs_nil, okEs_cons, onVal_val, onOwn_own, onO_some, onO_none, onO_map, onB_bl, onCell_lst, onCell_dct, onInts_int, okO_ok, List.getElem?_cons_zero, List.getElem?_cons_succ, List.set_cons_zero, List.set_cons_succ, isNo, boundC, l_tup, c_eq, n4]; simp) ?_
          exact tailC (by simpa [lineC] using g)
  | _ =>
    refine okCs_out ?_
    simp (decide := true) only [c1, okCs_nil, okCs_cons, okC_asg, okC_own, okC_stIx, okC_aug, okC_app, okC_ex, okC_ret, okC_retN, okC_ite, okC_for, okE_c, okE_no, okE_v, okE_pk, okE_g, okE_bin, okE_neg, okE_cmp, okE_chain, okE_and, okE_or, okE_not, okE_ite, okE_isi, okE_b1, okE_b2, okE_bm, okE_call, okE_ix, okE_sl, okE_tup, okE_lst, okE_dct, okE_new, okE_lc, okEs_nil, okEs_cons, onVal_val, onOwn_own, onO_some, onO_none, onO_map, onB_bl, onCell_lst, onCell_dct, onInts_int, okO_ok, List.getElem?_cons_zero, List.getElem?_cons_succ, List.set_cons_zero, List.set_cons_succ, isNo, boundC, isi_tup hg]
    simpa [lineC] using g
end K81

set_option linter.all false
set_option Elab.async false
set_option maxRecDepth 100000
set_option maxHeartbeats 4000000
namespace K81
open PySem DC
/-- pairs of a number and an item -/
def en : Nat → List D → List D
  | _, [] => []
  | i, d :: ds => .tup [.int i, d] :: en (i + 1) ds
theorem mapIdx_en : ∀ {ds : List D} {i : Nat}, (ds.mapIdx fun j d => D.tup [.int ((i + j : Nat) : Int), d]) = en i ds
  | [], i => rfl
  | d :: ds, i => by
    rw [List.mapIdx_cons, en, ← mapIdx_en (ds := ds) (i := i + 1)]
    congr 1
    congr 1
    funext j d
    rw [show i + (j + 1) = i + 1 + j by omega]
theorem items_en {h : List Cell} {ds : List D} : itemsOf .enum h [.tup ds] = some (en 0 ds) := by
  rw [← mapIdx_en]
  show some (ds.mapIdx fun i d => D.tup [.int (i : Int), d]) = _
  congr 2
  funext j d
  rw [Nat.zero_add]
theorem law_counted : ∀ (k : Nat) (d : D), good k d → ∀ (ifs : Int) (n : Nat) (h : List Cell), 2 * k + 6 ≤ n → callN T n 19 [d, .int ifs] h = some (.ok (resL (linesC k ifs d)) h) := by
  intro k
  induction k with
  | zero =>
    intro d hg ifs n h hn
    obtain ⟨m, rfl⟩ : ∃ m, n = m + 1 := ⟨n - 1, by omega⟩
    refine ok_eq (ok_call (n := m) (F := ⟨2, 8, b19⟩) rfl rfl ?_)
    show okCs T (callN T m) b19 [.val d, .val (.int ifs), .no, .no, .no, .no, .no, .no] h _ _
    refine okCs_out ?_
    simp (decide := true) only [okCs_nil, okCs_cons, okC_asg, okC_own, okC_stIx, okC_aug, okC_app, okC_ex, okC_ret, okC_retN, okC_ite, okC_for, okE_c, okE_no, okE_v, okE_pk, okE_g, okE_bin, okE_neg, okE_cmp, okE_chain, okE_and, okE_or, okE_not, okE_ite, okE_isi, okE_b1, okE_b2, okE_bm, okE_call, okE_ix, okE_sl, okE_tup, okE_lst, okE_dct, okE_new, okE_lc, okEs_nil, okEs_cons, onVal_val, onOwn_own, onO_some, onO_none, onO_map, onB_bl, onCell_lst, onCell_dct, onInts_int, okO_ok, List.getElem?_cons_zero, List.getElem?_cons_succ, List.set_cons_zero, List.set_cons_succ, isNo, boundC, isi_tup hg]
    cases d with
    | tup ds => exact (good0 hg).elim
    | _ => simp [linesC, resL]
  | succ k ih =>
    intro d hg ifs n h hn
    obtain ⟨m, rfl⟩ : ∃ m, n = m + 1 := ⟨n - 1, by omega⟩
    refine ok_eq (ok_call (n := m) (F := ⟨2, 8, b19⟩) rfl rfl ?_)
    show okCs T (callN T m) b19 [.val d, .val (.int ifs), .no, .no, .no, .no, .no, .no] h _ _
    cases d with
    | tup ls =>
      obtain ⟨hz, hd⟩ := good_tup hg
      refine okCs_step (Γ' := [.val (.tup ls), .val (.int ifs), .no, .no, .no, .no, .no, .no]) (h' := h) (by simp (decide := true) [okCs_nil, okCs_cons, okC_asg, okC_own, okC_stIx, okC_aug, okC_app, okC_ex, okC_ret, okC_retN, okC_ite, okC_for, okE_c, okE_no, okE_v, okE_pk, okE_g, okE_bin, okE_neg, okE_cmp, okE_chain, okE_and, okE_or, okE_not, okE_ite, okE_isi, okE_b1, okE_b2, okE_bm, okE_call, okE_ix, okE_sl, okE_tup, okE_lst, okE_dct, okE_new, okE_lc, okEs_nil, okEs_cons, onVal_val, onOwn_own, onO_some, onO_none, onO_map, onB_bl, onCell_lst, onCell_dct, onInts_int, okO_ok, List.getElem?_cons_zero, List.getElem?_cons_succ, List.set_cons_zero, List.set_cons_succ, isNo, boundC, isi_tup hg]) ?_
      refine okCs_step (Γ' := [.val (.tup ls), .val (.int ifs), .val (.lst [.int (0 : Nat), .int (0 : Nat)]), .no, .no, .no, .no, .no]) (h' := h) (by simp (decide := true) [okCs_nil, okCs_cons, okC_asg, okC_own, okC_stIx, okC_aug, okC_app, okC_ex, okC_ret, okC_retN, okC_ite, okC_for, okE_c, okE_no, okE_v, okE_pk, okE_g, okE_bin, okE_neg, okE_cmp, okE_chain, okE_and, okE_or, okE_not, okE_ite, okE_isi, okE_b1, okE_b2, okE_bm, okE_call, okE_ix, okE_sl, okE_tup, okE_lst, okE_dct, okE_new, okE_lc, okEs_nil, okEs_cons, onVal_val, onOwn_own, onO_some, onO_none, onO_map, onB_bl, onCell_lst, onCell_dct, onInts_int, okO_ok, List.getElem?_cons_zero, List.getElem?_cons_succ, List.set_cons_zero, List.set_cons_succ, isNo, boundC]) ?_
      have key : ∀ (ds : List D) (i x0 y0 : Nat) (s3 s4 s5 s6 s7 : Slot), (∀ d ∈ ds, good k d) → i + ds.length = ls.length →
          okS (forL (forF T (callN T m) (.tup [3, 4]) bdC) (en i ds) [.val (.tup ls), .val (.int ifs), .val (.lst [.int x0, .int y0]), s3, s4, s5, s6, s7] h)
            (fun Γ h' => ∃ a b s3 s4 s5 s6 s7, goL (lineC k (linesC k) ifs) ds = some (a, b) ∧ Γ = [.val (.tup ls), .val (.int ifs), .val (.lst [.int (x0 + a : Nat), .int (y0 + b : Nat)]), s3, s4, s5, s6, s7] ∧ h' = h)
            (fun r h' => goL (lineC k (linesC k) ifs) ds = none ∧ r = .non ∧ h' = h) := by
        intro ds
        induction ds with
        | nil => exact fun i x0 y0 s3 s4 s5 s6 s7 _ _ => ⟨0, 0, s3, s4, s5, s6, s7, rfl, rfl, rfl⟩
        | cons e ds ihl =>
          intro i x0 y0 s3 s4 s5 s6 s7 hd hi
          rw [en]
          refine for_cons (lineC_step ih (hd e List.mem_cons_self) (ifs := ifs) (m := m) (last := ds.isEmpty) (by omega) ?_ ?_)
          · rw [List.length_cons] at hi
            cases ds with
            | nil =>
              simp only [List.length_nil] at hi
              simp only [List.isEmpty_nil]
              rw [eq_comm, decide_eq_true_iff]
              omega
            | cons _ _ =>
              simp only [List.length_cons] at hi
              simp only [List.isEmpty_cons]
              rw [eq_comm, decide_eq_false_iff_not]
              omega
          · have eg : goL (lineC k (linesC k) ifs) (e :: ds) = (match lineC k (linesC k) ifs ds.isEmpty e, goL (lineC k (linesC k) ifs) ds with
              | some (a, b), some (a', b') => some (a + a', b + b')
              | _, _ => none) := rfl
            cases hl : lineC k (linesC k) ifs ds.isEmpty e with
            | none =>
              rw [hl] at eg
              exact ⟨eg, rfl, rfl⟩
            | some p =>
              obtain ⟨a, b⟩ := p
              rw [hl] at eg
              intro s3 s4 s5 s6 s7
              refine (ihl (i + 1) (x0 + a) (y0 + b) s3 s4 s5 s6 s7 (fun x hx => hd x (List.mem_cons_of_mem _ hx)) (by rw [List.length_cons] at hi; omega)).mono (fun Γ h' q => ?_) fun r h' q => ?_
              · obtain ⟨a', b', s3, s4, s5, s6, s7, q1, q2, q3⟩ := q
                rw [q1] at eg
                refine ⟨a + a', b + b', s3, s4, s5, s6, s7, eg, ?_, q3⟩
                rw [q2, Nat.add_assoc, Nat.add_assoc]
              · obtain ⟨q1, q2, q3⟩ := q
                rw [q1] at eg
                exact ⟨eg, q2, q3⟩
      rw [okCs_cons]
      show okC T (callN T m) (.for_ .enum [(.v 0)] (.tup [3, 4]) bdC) _ h _ _
      simp only [okC_for, okEs_cons, okEs_nil, okE_v, List.getElem?_cons_zero, onVal_val, items_en, onO_some]
      refine (key ls 0 0 0 .no .no .no .no .no hd (by simp)).mono (fun Γ h' q => ?_) fun r h' q => ?_
      · obtain ⟨a, b, s3, s4, s5, s6, s7, q1, rfl, rfl⟩ := q
        simp only [okCs_nil, okCs_cons, okC_asg, okC_own, okC_stIx, okC_aug, okC_app, okC_ex, okC_ret, okC_retN, okC_ite, okC_for, okE_c, okE_no, okE_v, okE_pk, okE_g, okE_bin, okE_neg, okE_cmp, okE_chain, okE_and, okE_or, okE_not, okE_ite, okE_isi, okE_b1, okE_b2, okE_bm, okE_call, okE_ix, okE_sl, okE_tup, okE_lst, okE_dct, okE_new, okE_lc, okEs_nil, okEs_cons, onVal_val, onOwn_own, onO_some, onO_none, onO_map, onB_bl, onCell_lst, onCell_dct, onInts_int, okO_ok, List.getElem?_cons_zero, List.getElem?_cons_succ, List.set_cons_zero, List.set_cons_succ, isNo, boundC, linesC, q1, resL, Nat.zero_add]
        exact ⟨trivial, trivial⟩
      · obtain ⟨q1, rfl, rfl⟩ := q
        simp only [linesC, q1, resL]
        exact ⟨trivial, trivial⟩
    | _ =>
      refine okCs_out ?_
      simp (decide := true) only [okCs_nil, okCs_cons, okC_asg, okC_own, okC_stIx, okC_aug, okC_app, okC_ex, okC_ret, okC_retN, okC_ite, okC_for, okE_c, okE_no, okE_v, okE_pk, okE_g, okE_bin, okE_neg, okE_cmp, okE_chain, okE_and, okE_or, okE_not, okE_ite, okE_isi, okE_b1, okE_b2, okE_bm, okE_call, okE_ix, okE_sl, okE_tup, okE_lst, okE_dct, okE_new, okE_lc, okEs_nil, okEs_cons, onVal_val, onOwn_own, onO_some, onO_none, onO_map, onB_bl, onCell_lst, onCell_dct, onInts_int, okO_ok, List.getElem?_cons_zero, List.getElem?_cons_succ, List.set_cons_zero, List.set_cons_succ, isNo, boundC, isi_tup hg]
      simp [linesC, resL]
theorem law_is_program (k : Nat) (d : D) (hg : good k d) (n : Nat) (h : List Cell) (hn : 2 * k + 7 ≤ n) : callN T n 20 [d] h = some (.ok (.bl (progB k d)) h) := by
  obtain ⟨m, rfl⟩ : ∃ m, n = m + 1 := ⟨n - 1, by omega⟩
  refine ok_eq (ok_call (n := m) (F := ⟨1, 2, b20⟩) rfl rfl ?_)
  show okCs T (callN T m) b20 [.val d, .no] h _ _
  refine okCs_step (Γ' := [.val d, .val (resL (linesC k 0 d))]) (h' := h) (by simp (decide := true) [okCs_nil, okCs_cons, okC_asg, okC_own, okC_stIx, okC_aug, okC_app, okC_ex, okC_ret, okC_retN, okC_ite, okC_for, okE_c, okE_no, okE_v, okE_pk, okE_g, okE_bin, okE_neg, okE_cmp, okE_chain, okE_and, okE_or, okE_not, okE_ite, okE_isi, okE_b1, okE_b2, okE_bm, okE_call, okE_ix, okE_sl, okE_tup, okE_lst, okE_dct, okE_new, okE_lc, okEs_nil, okEs_cons, onVal_val, onOwn_own, onO_some, onO_none, onO_map, onB_bl, onCell_lst, onCell_dct, onInts_int, okO_ok, List.getElem?_cons_zero, List.getElem?_cons_succ, List.set_cons_zero, List.set_cons_succ, isNo, boundC, law_counted k d hg 0 m h (by omega)]) ?_
  cases e : linesC k 0 d with
  | none => simp (decide := true) [okCs_nil, okCs_cons, okC_asg, okC_own, okC_stIx, okC_aug, okC_app, okC_ex, okC_ret, okC_retN, okC_ite, okC_for, okE_c, okE_no, okE_v, okE_pk, okE_g, okE_bin, okE_neg, okE_cmp, okE_chain, okE_and, okE_or, okE_not, okE_ite, okE_isi, okE_b1, okE_b2, okE_bm, okE_call, okE_ix, okE_sl, okE_tup, okE_lst, okE_dct, okE_new, okE_lc, okEs_nil, okEs_cons, onVal_val, onOwn_own, onO_some, onO_none, onO_map, onB_bl, onCell_lst, onCell_dct, onInts_int, okO_ok, List.getElem?_cons_zero, List.getElem?_cons_succ, List.set_cons_zero, List.set_cons_succ, isNo, boundC, resL, cmpD, progB, e]
  | some p =>
    obtain ⟨x, y⟩ := p
    simp (decide := true) only [okCs_nil, okCs_cons, okC_asg, okC_own, okC_stIx, okC_aug, okC_app, okC_ex, okC_ret, okC_retN, okC_ite, okC_for, okE_c, okE_no, okE_v, okE_pk, okE_g, okE_bin, okE_neg, okE_cmp, okE_chain, okE_and, okE_or, okE_not, okE_ite, okE_isi, okE_b1, okE_b2, okE_bm, okE_call, okE_ix, okE_sl, okE_tup, okE_lst, okE_dct, okE_new, okE_lc, okEs_nil, okEs_cons, onVal_val, onOwn_own, onO_some, onO_none, onO_map, onB_bl, onCell_lst, onCell_dct, onInts_int, okO_ok, List.getElem?_cons_zero, List.getElem?_cons_succ, List.set_cons_zero, List.set_cons_succ, isNo, boundC, resL, cmpD, ix_lst, at0, at1, progB, e]
    by_cases q1 : 1 ≤ x <;> by_cases q2 : x ≤ 16 <;> by_cases q3 : y ≤ 8 <;> simp [q1, q2, q3] <;> omega
end K81

set_option linter.all false
set_option Elab.async false
set_option maxRecDepth 100000
set_option maxHeartbeats 4000000
namespace K81
open PySem DC
/-- the state's cell -/
def stOk (c : Option Cell) : Prop := ∃ a b d : Int, c = some (.lst [.int a, .int b, .int d])
theorem ix_ref {h : List Cell} {s : Nat} {ds : List D} {k : Int} (e : h[s]? = some (.lst ds)) : ixD h (.ref s) (.int k) = L2.atI ds k := by
  unfold ixD
  simp only [dctOf, e, seqOf]
  rfl
theorem stix_ref {h : List Cell} {s : Nat} {a b d : Int} {v : D} (e : h[s]? = some (.lst [.int a, .int b, .int d])) : stIxD h (.ref s) (.int 1) v = some (h.set s (.lst [.int a, v, .int d])) := by
  unfold stIxD
  simp only [e]
  rfl
theorem set_get {h : List Cell} {s : Nat} {c c' : Cell} (e : h[s]? = some c) : (h.set s c')[s]? = some c' := by
  rw [List.getElem?_set_self (List.getElem?_eq_some_iff.mp e).1]
theorem b_mod {h : List Cell} {a b : Int} (hb : 0 < b) : binD .mod h (.int a) (.int b) = some (.int (a % b)) := by
  unfold binD
  simp [hb]
theorem b_fdiv {h : List Cell} {a b : Int} (hb : 0 < b) (h2 : b < 2 ^ 64) : binD .fdiv h (.int a) (.int b) = some (.int (a / b)) := by
  unfold binD
  simp only
  rw [if_pos ⟨hb, h2⟩]
theorem b_mul {h : List Cell} {a b : Int} (hb : (intFits a || intFits b) = true) : binD .mul h (.int a) (.int b) = some (.int (a * b)) := by
  show (if (intFits a || intFits b) = true then some (D.int (a * b)) else none) = _
  rw [if_pos hb]
theorem fits_mod {a b : Int} (hb : 0 < b) (h2 : b < 2 ^ 64) : intFits (a % b) = true := by
  have h1 := Int.emod_nonneg a (Int.ne_of_gt hb)
  have h3 := Int.emod_lt_of_pos a hb
  unfold intFits
  simp only [Bool.and_eq_true, decide_eq_true_eq]
  omega
theorem law_next {h : List Cell} {s : Nat} (hs : stOk h[s]?) {size : Int} (h1 : 0 < size) (h2 : size < 2 ^ 64) {n : Nat} (hn : 1 ≤ n) : okO (callN T n 10 [.ref s, .int size] h) fun r h' => ∃ (i : Int) (c : Cell), r = .int i ∧ 0 ≤ i ∧ i < size ∧ h' = h.set s c ∧ stOk (some c) := by
  obtain ⟨m, rfl⟩ : ∃ m, n = m + 1 := ⟨n - 1, by omega⟩
  obtain ⟨a, b, d, e⟩ := hs
  refine ok_call (n := m) (F := ⟨2, 4, b10⟩) rfl rfl ?_
  show okCs T (callN T m) b10 [.val (.ref s), .val (.int size), .no, .no] h _ _
  by_cases ha : a = 0
  · refine okCs_out ?_
    simp (decide := true) only [okC_ite, okE_cmp, okE_ix, okE_v, okE_c, List.getElem?_cons_zero, List.getElem?_cons_succ, onVal_val, onO_some, onB_bl, ix_ref e, at0, c_eq, ha, if_true]
    refine okCs_step (Γ' := [.val (.ref s), .val (.int size), .no, .val (.int (b % size))]) (h' := h) (by simp (decide := true) [okCs_nil, okCs_cons, okC_asg, okC_own, okC_stIx, okC_aug, okC_app, okC_ex, okC_ret, okC_retN, okC_ite, okC_for, okE_c, okE_no, okE_v, okE_pk, okE_g, okE_bin, okE_neg, okE_cmp, okE_chain, okE_and, okE_or, okE_not, okE_ite, okE_isi, okE_b1, okE_b2, okE_bm, okE_call, okE_ix, okE_sl, okE_tup, okE_lst, okE_dct, okE_new, okE_lc, okEs_nil, okEs_cons, onVal_val, onOwn_own, onO_some, onO_none, onO_map, onB_bl, onCell_lst, onCell_dct, onInts_int, okO_ok, List.getElem?_cons_zero, List.getElem?_cons_succ, List.set_cons_zero, List.set_cons_succ, isNo, boundC, ix_ref e, at1, b_mod h1]) ?_
    refine okCs_step (Γ' := [.val (.ref s), .val (.int size), .no, .val (.int (b % size))]) (h' := h.set s (.lst [.int a, .int (b / size), .int d])) (by simp (decide := true) [okCs_nil, okCs_cons, okC_asg, okC_own, okC_stIx, okC_aug, okC_app, okC_ex, okC_ret, okC_retN, okC_ite, okC_for, okE_c, okE_no, okE_v, okE_pk, okE_g, okE_bin, okE_neg, okE_cmp, okE_chain, okE_and, okE_or, okE_not, okE_ite, okE_isi, okE_b1, okE_b2, okE_bm, okE_call, okE_ix, okE_sl, okE_tup, okE_lst, okE_dct, okE_new, okE_lc, okEs_nil, okEs_cons, onVal_val, onOwn_own, onO_some, onO_none, onO_map, onB_bl, onCell_lst, onCell_dct, onInts_int, okO_ok, List.getElem?_cons_zero, List.getElem?_cons_succ, List.set_cons_zero, List.set_cons_succ, isNo, boundC, ix_ref e, at1, b_fdiv h1 h2, stix_ref e]) ?_
    simp only [okCs_nil, okCs_cons, okC_asg, okC_own, okC_stIx, okC_aug, okC_app, okC_ex, okC_ret, okC_retN, okC_ite, okC_for, okE_c, okE_no, okE_v, okE_pk, okE_g, okE_bin, okE_neg, okE_cmp, okE_chain, okE_and, okE_or, okE_not, okE_ite, okE_isi, okE_b1, okE_b2, okE_bm, okE_call, okE_ix, okE_sl, okE_tup, okE_lst, okE_dct, okE_new, okE_lc, okEs_nil, okEs_cons, onVal_val, onOwn_own, onO_some, onO_none, onO_map, onB_bl, onCell_lst, onCell_dct, onInts_int, okO_ok, List.getElem?_cons_zero, List.getElem?_cons_succ, List.set_cons_zero, List.set_cons_succ, isNo, boundC]
    exact ⟨b % size, _, rfl, Int.emod_nonneg b (Int.ne_of_gt h1), Int.emod_lt_of_pos b h1, rfl, a, b / size, d, rfl⟩
  · refine okCs_step (Γ' := [.val (.ref s), .val (.int size), .no, .no]) (h' := h) (by simp (decide := true) [okCs_nil, okCs_cons, okC_asg, okC_own, okC_stIx, okC_aug, okC_app, okC_ex, okC_ret, okC_retN, okC_ite, okC_for, okE_c, okE_no, okE_v, okE_pk, okE_g, okE_bin, okE_neg, okE_cmp, okE_chain, okE_and, okE_or, okE_not, okE_ite, okE_isi, okE_b1, okE_b2, okE_bm, okE_call, okE_ix, okE_sl, okE_tup, okE_lst, okE_dct, okE_new, okE_lc, okEs_nil, okEs_cons, onVal_val, onOwn_own, onO_some, onO_none, onO_map, onB_bl, onCell_lst, onCell_dct, onInts_int, okO_ok, List.getElem?_cons_zero, List.getElem?_cons_succ, List.set_cons_zero, List.set_cons_succ, isNo, boundC, ix_ref e, at0, c_eq, ha]) ?_
    have f1 : (intFits b || intFits 48271) = true := by
      rw [show intFits 48271 = true by decide, Bool.or_true]
    have e2 := set_get (c' := .lst [.int a, .int ((b * 48271 + d) % 2147483647), .int d]) e
    refine okCs_step (Γ' := [.val (.ref s), .val (.int size), .no, .no]) (h' := h.set s (.lst [.int a, .int ((b * 48271 + d) % 2147483647), .int d])) (by simp (decide := true) [okCs_nil, okCs_cons, okC_asg, okC_own, okC_stIx, okC_aug, okC_app, okC_ex, okC_ret, okC_retN, okC_ite, okC_for, okE_c, okE_no, okE_v, okE_pk, okE_g, okE_bin, okE_neg, okE_cmp, okE_chain, okE_and, okE_or, okE_not, okE_ite, okE_isi, okE_b1, okE_b2, okE_bm, okE_call, okE_ix, okE_sl, okE_tup, okE_lst, okE_dct, okE_new, okE_lc, okEs_nil, okEs_cons, onVal_val, onOwn_own, onO_some, onO_none, onO_map, onB_bl, onCell_lst, onCell_dct, onInts_int, okO_ok, List.getElem?_cons_zero, List.getElem?_cons_succ, List.set_cons_zero, List.set_cons_succ, isNo, boundC, ix_ref e, at1, at2, b_mul f1, b_add, b_mod (show (0 : Int) < 2147483647 by decide), stix_ref e]) ?_
    generalize hx : (b * 48271 + d) % 2147483647 = x at e2
    have f2 : (intFits x || intFits x) = true := by
      rw [← hx, fits_mod (by decide) (by decide)]
      rfl
    refine okCs_step (Γ' := [.val (.ref s), .val (.int size), .val (.int (x * x % 2147483629)), .no]) (h' := h.set s (.lst [.int a, .int x, .int d])) (by simp (decide := true) [okCs_nil, okCs_cons, okC_asg, okC_own, okC_stIx, okC_aug, okC_app, okC_ex, okC_ret, okC_retN, okC_ite, okC_for, okE_c, okE_no, okE_v, okE_pk, okE_g, okE_bin, okE_neg, okE_cmp, okE_chain, okE_and, okE_or, okE_not, okE_ite, okE_isi, okE_b1, okE_b2, okE_bm, okE_call, okE_ix, okE_sl, okE_tup, okE_lst, okE_dct, okE_new, okE_lc, okEs_nil, okEs_cons, onVal_val, onOwn_own, onO_some, onO_none, onO_map, onB_bl, onCell_lst, onCell_dct, onInts_int, okO_ok, List.getElem?_cons_zero, List.getElem?_cons_succ, List.set_cons_zero, List.set_cons_succ, isNo, boundC, ix_ref e2, at1, b_mul f2, b_mod (show (0 : Int) < 2147483629 by decide)]) ?_
    generalize hy : x * x % 2147483629 = y
    have f3 : (intFits y || intFits y) = true := by
      rw [← hy, fits_mod (by decide) (by decide)]
      rfl
    simp (decide := true) only [okCs_nil, okCs_cons, okC_asg, okC_own, okC_stIx, okC_aug, okC_app, okC_ex, okC_ret, okC_retN, okC_ite, okC_for, okE_c, okE_no, okE_v, okE_pk, okE_g, okE_bin, okE_neg, okE_cmp, okE_chain, okE_and, okE_or, okE_not, okE_ite, okE_isi, okE_b1, okE_b2, okE_bm, okE_call, okE_ix, okE_sl, okE_tup, okE_lst, okE_dct, okE_new, okE_lc, okEs_nil, okEs_cons, onVal_val, onOwn_own, onO_some, onO_none, onO_map, onB_bl, onCell_lst, onCell_dct, onInts_int, okO_ok, List.getElem?_cons_zero, List.getElem?_cons_succ, List.set_cons_zero, List.set_cons_succ, isNo, boundC, b_mul f3, b_mod (show (0 : Int) < 2147483587 by decide), b_fdiv (show (0 : Int) < 7 by decide) (show (7 : Int) < 2 ^ 64 by decide), b_mod h1]
    exact ⟨_, _, rfl, Int.emod_nonneg _ (Int.ne_of_gt h1), Int.emod_lt_of_pos _ h1, rfl, a, x, d, rfl⟩
end K81

set_option linter.all false
set_option Elab.async false
set_option maxRecDepth 100000
set_option maxHeartbeats 4000000
namespace K81
open PySem DC
theorem l_scr {h : List Cell} {ds : List D} : b1D .len h (.scr ds) = some (.int ds.length) := rfl
theorem ix_scr {h : List Cell} {ds : List D} {k : Int} : ixD h (.scr ds) (.int k) = L2.atI ds k := rfl
theorem abs_i {h : List Cell} {i : Int} : b1D .abs h (.int i) = some (.int (if i < 0 then -i else i)) := rfl
theorem at_some {ds : List D} {k : Int} (h1 : 0 ≤ k) (h2 : k < ds.length) : ∃ j : Nat, (j : Int) = k ∧ ∃ hj : j < ds.length, L2.atI ds k = some ds[j] := by
  refine ⟨k.toNat, by omega, by omega, ?_⟩
  unfold L2.atI L2.ixN
  rw [if_pos h1, if_pos h2]
  exact List.getElem?_eq_getElem (by omega)
theorem law_state {h : List Cell} {ns : List Int} {k : Int} (h0 : 0 ≤ k) (hz : ns.length ≤ 63) {n : Nat} (hn : 1 ≤ n) : okO (callN T n 9 [.scr (ns.map .int), .int k] h) fun r h' => ∃ c, r = .ref h.length ∧ h' = h ++ [c] ∧ stOk (some c) := by
  obtain ⟨m, rfl⟩ : ∃ m, n = m + 1 := ⟨n - 1, by omega⟩
  refine ok_call (n := m) (F := ⟨2, 4, b9⟩) rfl rfl ?_
  show okCs T (callN T m) b9 [.val (.scr (ns.map .int)), .val (.int k), .no, .no] h _ _
  have fi : ∀ x : Int, (intFits 2 || intFits x) = true := fun x => by rw [show intFits 2 = true by decide]; rfl
  refine okCs_step (Γ' := [.val (.scr (ns.map .int)), .val (.int k), .val (.int (1 + 2 * k)), .no]) (h' := h) (by simp (decide := true) [okCs_nil, okCs_cons, okC_asg, okC_own, okC_stIx, okC_aug, okC_app, okC_ex, okC_ret, okC_retN, okC_ite, okC_for, okE_c, okE_no, okE_v, okE_pk, okE_g, okE_bin, okE_neg, okE_cmp, okE_chain, okE_and, okE_or, okE_not, okE_ite, okE_isi, okE_b1, okE_b2, okE_bm, okE_call, okE_ix, okE_sl, okE_tup, okE_lst, okE_dct, okE_new, okE_lc, okEs_nil, okEs_cons, onVal_val, onOwn_own, onO_some, onO_none, onO_map, onB_bl, onCell_lst, onCell_dct, onInts_int, okO_ok, List.getElem?_cons_zero, List.getElem?_cons_succ, List.set_cons_zero, List.set_cons_succ, isNo, boundC, b_mul (fi k), b_add]) ?_
  have hc : ∃ z : Int, okC T (callN T m) (.ite (.cmp .gt (.b1 .len (.v 0)) (.c (.int 0))) [.asg 2 (.bin .add (.ix (.v 0) (.bin .mod (.v 1) (.b1 .len (.v 0)))) (.bin .mul (.c (.int 2)) (.bin .fdiv (.v 1) (.b1 .len (.v 0)))))] []) [.val (.scr (ns.map .int)), .val (.int k), .val (.int (1 + 2 * k)), .no] h (fun Γ1 h1 => Γ1 = [.val (.scr (ns.map .int)), .val (.int k), .val (.int z), .no] ∧ h1 = h) (fun _ _ => False) := by
    by_cases hl : (0 : Int) < ns.length
    · have hm := Int.emod_nonneg k (Int.ne_of_gt hl)
      have hm2 := Int.emod_lt_of_pos k hl
      obtain ⟨j, ej, hj, e⟩ := at_some (ds := ns.map .int) (k := k % ns.length) hm (by rw [List.length_map]; exact hm2)
      rw [List.getElem_map] at e
      have hj' : j < ns.length := by simpa using hj
      refine ⟨ns[j] + 2 * (k / ns.length), ?_⟩
      simp (decide := true) only [okCs_nil, okCs_cons, okC_asg, okC_own, okC_stIx, okC_aug, okC_app, okC_ex, okC_ret, okC_retN, okC_ite, okC_for, okE_c, okE_no, okE_v, okE_pk, okE_g, okE_bin, okE_neg, okE_cmp, okE_chain, okE_and, okE_or, okE_not, okE_ite, okE_isi, okE_b1, okE_b2, okE_bm, okE_call, okE_ix, okE_sl, okE_tup, okE_lst, okE_dct, okE_new, okE_lc, okEs_nil, okEs_cons, onVal_val, onOwn_own, onO_some, onO_none, onO_map, onB_bl, onCell_lst, onCell_dct, onInts_int, okO_ok, List.getElem?_cons_zero, List.getElem?_cons_succ, List.set_cons_zero, List.set_cons_succ, isNo, boundC, l_scr, List.length_map, c_gt, hl, b_mod hl, ix_scr, e, b_fdiv hl (show (ns.length : Int) < 2 ^ 64 by omega), b_mul (fi _), b_add]
      simp
    · refine ⟨1 + 2 * k, ?_⟩
      simp (decide := true) only [okCs_nil, okCs_cons, okC_asg, okC_own, okC_stIx, okC_aug, okC_app, okC_ex, okC_ret, okC_retN, okC_ite, okC_for, okE_c, okE_no, okE_v, okE_pk, okE_g, okE_bin, okE_neg, okE_cmp, okE_chain, okE_and, okE_or, okE_not, okE_ite, okE_isi, okE_b1, okE_b2, okE_bm, okE_call, okE_ix, okE_sl, okE_tup, okE_lst, okE_dct, okE_new, okE_lc, okEs_nil, okEs_cons, onVal_val, onOwn_own, onO_some, onO_none, onO_map, onB_bl, onCell_lst, onCell_dct, onInts_int, okO_ok, List.getElem?_cons_zero, List.getElem?_cons_succ, List.set_cons_zero, List.set_cons_succ, isNo, boundC, l_scr, List.length_map, c_gt, hl]
      simp
  obtain ⟨z, hc⟩ := hc
  refine okCs_step hc ?_
  generalize hs : (if z < 0 then -z else z) / 2 = st
  refine okCs_step (Γ' := [.val (.scr (ns.map .int)), .val (.int k), .val (.int z), .val (.int st)]) (h' := h) (by simp (decide := true) [okCs_nil, okCs_cons, okC_asg, okC_own, okC_stIx, okC_aug, okC_app, okC_ex, okC_ret, okC_retN, okC_ite, okC_for, okE_c, okE_no, okE_v, okE_pk, okE_g, okE_bin, okE_neg, okE_cmp, okE_chain, okE_and, okE_or, okE_not, okE_ite, okE_isi, okE_b1, okE_b2, okE_bm, okE_call, okE_ix, okE_sl, okE_tup, okE_lst, okE_dct, okE_new, okE_lc, okEs_nil, okEs_cons, onVal_val, onOwn_own, onO_some, onO_none, onO_map, onB_bl, onCell_lst, onCell_dct, onInts_int, okO_ok, List.getElem?_cons_zero, List.getElem?_cons_succ, List.set_cons_zero, List.set_cons_succ, isNo, boundC, abs_i, b_fdiv (show (0 : Int) < 2 by decide) (show (2 : Int) < 2 ^ 64 by decide), hs]) ?_
  have hd : ∃ w : Int, okC T (callN T m) (.ite (.cmp .eq (.bin .mod (.v 2) (.c (.int 2))) (.c (.int 1))) [.asg 3 (.bin .mod (.bin .add (.bin .add (.bin .add (.bin .mul (.bin .mod (.v 3) (.c (.int 2147483647))) (.c (.int 48271))) (.bin .mul (.c (.int 7919)) (.v 1))) (.b1 .len (.v 0))) (.c (.int 11))) (.c (.int 2147483647)))] []) [.val (.scr (ns.map .int)), .val (.int k), .val (.int z), .val (.int st)] h (fun Γ1 h1 => Γ1 = [.val (.scr (ns.map .int)), .val (.int k), .val (.int z), .val (.int w)] ∧ h1 = h) (fun _ _ => False) := by
    by_cases hq : z % 2 = 1
    · refine ⟨(st % 2147483647 * 48271 + 7919 * k + ns.length + 11) % 2147483647, ?_⟩
      have f1 : ∀ x : Int, (intFits x || intFits 48271) = true := fun x => by rw [show intFits 48271 = true by decide, Bool.or_true]
      have f2 : ∀ x : Int, (intFits 7919 || intFits x) = true := fun x => by rw [show intFits 7919 = true by decide]; rfl
      simp (decide := true) only [okCs_nil, okCs_cons, okC_asg, okC_own, okC_stIx, okC_aug, okC_app, okC_ex, okC_ret, okC_retN, okC_ite, okC_for, okE_c, okE_no, okE_v, okE_pk, okE_g, okE_bin, okE_neg, okE_cmp, okE_chain, okE_and, okE_or, okE_not, okE_ite, okE_isi, okE_b1, okE_b2, okE_bm, okE_call, okE_ix, okE_sl, okE_tup, okE_lst, okE_dct, okE_new, okE_lc, okEs_nil, okEs_cons, onVal_val, onOwn_own, onO_some, onO_none, onO_map, onB_bl, onCell_lst, onCell_dct, onInts_int, okO_ok, List.getElem?_cons_zero, List.getElem?_cons_succ, List.set_cons_zero, List.set_cons_succ, isNo, boundC, b_mod (show (0 : Int) < 2 by decide), c_eq, hq, b_mod (show (0 : Int) < 2147483647 by decide), b_mul (f1 _), b_mul (f2 _), b_add, l_scr, List.length_map]
      simp
    · refine ⟨st, ?_⟩
      simp (decide := true) only [okCs_nil, okCs_cons, okC_asg, okC_own, okC_stIx, okC_aug, okC_app, okC_ex, okC_ret, okC_retN, okC_ite, okC_for, okE_c, okE_no, okE_v, okE_pk, okE_g, okE_bin, okE_neg, okE_cmp, okE_chain, okE_and, okE_or, okE_not, okE_ite, okE_isi, okE_b1, okE_b2, okE_bm, okE_call, okE_ix, okE_sl, okE_tup, okE_lst, okE_dct, okE_new, okE_lc, okEs_nil, okEs_cons, onVal_val, onOwn_own, onO_some, onO_none, onO_map, onB_bl, onCell_lst, onCell_dct, onInts_int, okO_ok, List.getElem?_cons_zero, List.getElem?_cons_succ, List.set_cons_zero, List.set_cons_succ, isNo, boundC, b_mod (show (0 : Int) < 2 by decide), c_eq, hq]
      simp
  obtain ⟨w, hd⟩ := hd
  refine okCs_step hd ?_
  simp (decide := true) only [okCs_nil, okCs_cons, okC_asg, okC_own, okC_stIx, okC_aug, okC_app, okC_ex, okC_ret, okC_retN, okC_ite, okC_for, okE_c, okE_no, okE_v, okE_pk, okE_g, okE_bin, okE_neg, okE_cmp, okE_chain, okE_and, okE_or, okE_not, okE_ite, okE_isi, okE_b1, okE_b2, okE_bm, okE_call, okE_ix, okE_sl, okE_tup, okE_lst, okE_dct, okE_new, okE_lc, okEs_nil, okEs_cons, onVal_val, onOwn_own, onO_some, onO_none, onO_map, onB_bl, onCell_lst, onCell_dct, onInts_int, okO_ok, List.getElem?_cons_zero, List.getElem?_cons_succ, List.set_cons_zero, List.set_cons_succ, isNo, boundC, b_mod (show (0 : Int) < 2 by decide), b_add, newCell]
  exact ⟨(show (3 : Nat) ≤ 16777216 by decide), _, trivial, rfl, _, _, _, rfl⟩
end K81

set_option linter.all false
set_option Elab.async false
set_option maxRecDepth 100000
set_option maxHeartbeats 4000000
namespace K81
open PySem DC
/-- only the state's cell is another, and it is a state -/
structure Upd (s : Nat) (h h' : List Cell) : Prop where
  st : stOk h'[s]?
  len : h'.length = h.length
  oth : ∀ j, j ≠ s → h'[j]? = h[j]?
theorem Upd.refl {s : Nat} {h : List Cell} (hs : stOk h[s]?) : Upd s h h := ⟨hs, rfl, fun _ _ => rfl⟩
theorem Upd.trans {s : Nat} {h h1 h2 : List Cell} (a : Upd s h h1) (b : Upd s h1 h2) : Upd s h h2 := ⟨b.st, b.len.trans a.len, fun j hj => (b.oth j hj).trans (a.oth j hj)⟩
theorem law_nextU {h : List Cell} {s : Nat} (hs : stOk h[s]?) {size : Int} (h1 : 0 < size) (h2 : size < 2 ^ 64) {n : Nat} (hn : 1 ≤ n) : okO (callN T n 10 [.ref s, .int size] h) fun r h' => ∃ i : Int, r = .int i ∧ 0 ≤ i ∧ i < size ∧ Upd s h h' := by
  refine (law_next hs h1 h2 hn).mono fun r h' ⟨i, c, e1, e2, e3, e4, e5⟩ => ⟨i, e1, e2, e3, ?_⟩
  obtain ⟨a, b, d, e⟩ := hs
  subst e4
  refine ⟨?_, by simp, fun j hj => List.getElem?_set_ne fun z => hj z.symm⟩
  rw [set_get e]
  exact e5
structure NmOk (names : List D) : Prop where
  ne : names ≠ []
  le : names.length ≤ 5
  lab : ∀ d ∈ names, labelB d = true
theorem lab_str {d : D} (h : labelB d = true) : ∃ z, d = .str z := by
  cases d <;> first | exact ⟨_, rfl⟩ | (exact absurd h (by simp [labelB, keyB]))
theorem NmOk.at {names : List D} (o : NmOk names) {i : Int} (h1 : 0 ≤ i) (h2 : i < names.length) : ∃ d, L2.atI names i = some d ∧ labelB d = true := by
  obtain ⟨j, _, hj, e⟩ := at_some h1 h2
  exact ⟨_, e, o.lab _ (List.getElem_mem hj)⟩
theorem good_atom {d : D} (h : match d with | .tup _ => False | .lst _ => False | .ref _ => False | .scr _ => False | _ => True) (k : Nat) : good k d := by
  cases d <;> first | exact h.elim | (unfold good; trivial)
theorem good_lab {d : D} (h : labelB d = true) (k : Nat) : good k d := by
  obtain ⟨z, rfl⟩ := lab_str h
  exact good_atom trivial k
theorem good_mk {k : Nat} {ds : List D} (hz : ds.length ≤ 1000) (h : ∀ d ∈ ds, good k d) : good (k + 1) (.tup ds) := by
  unfold good
  exact ⟨hz, h⟩
/-- good, with room for one part more in each -/
def slim : Nat → D → Prop
  | k, .tup ds => match k with
    | 0 => False
    | k + 1 => ds.length ≤ 999 ∧ ∀ d ∈ ds, slim k d
  | k, .lst ds => match k with
    | 0 => False
    | k + 1 => ds.length ≤ 999 ∧ ∀ d ∈ ds, slim k d
  | _, .ref _ => False
  | _, .scr _ => False
  | _, _ => True
theorem slim_atom {d : D} (h : match d with | .tup _ => False | .lst _ => False | .ref _ => False | .scr _ => False | _ => True) (k : Nat) : slim k d := by
  cases d <;> first | exact h.elim | (unfold slim; trivial)
theorem slim_lab {d : D} (h : labelB d = true) (k : Nat) : slim k d := by
  obtain ⟨z, rfl⟩ := lab_str h
  exact slim_atom trivial k
theorem slim_mk {k : Nat} {ds : List D} (hz : ds.length ≤ 999) (h : ∀ d ∈ ds, slim k d) : slim (k + 1) (.tup ds) := by
  unfold slim
  exact ⟨hz, h⟩
theorem slim.good : ∀ {k : Nat} {d : D}, slim k d → good k d
  | 0, d, h => by
    cases d <;> first | (unfold K81.good; trivial) | (unfold slim at h; exact h.elim)
  | k + 1, d, h => by
    cases d <;> first | (unfold K81.good; trivial) | (unfold slim at h; exact h.elim) | skip
    all_goals
      unfold slim at h
      unfold K81.good
      exact ⟨by omega, fun d hd => (h.2 d hd).good⟩
end K81

set_option linter.all false
set_option Elab.async false
set_option maxRecDepth 100000
set_option maxHeartbeats 4000000
namespace K81
open PySem DC
theorem law_sum_gen : ∀ (deep : Nat), 1 ≤ deep → ∀ (h : List Cell) (s : Nat) (names : List D), stOk h[s]? → NmOk names → ∀ (n : Nat), deep + 2 ≤ n → okO (callN T n 12 [.ref s, .lst names, .int deep] h) fun r h' => (∀ K, deep ≤ K → slim K r ∧ 0 < sumD K r ∧ sumD K r ≤ deep) ∧ Upd s h h'
  | 0, h0, _, _, _, _, _, _, _ => absurd h0 (by omega)
  | deep + 1, _, h, s, names, hs, hn, n, hm => by
    obtain ⟨m, rfl⟩ : ∃ m, n = m + 1 := ⟨n - 1, by omega⟩
    refine ok_call (n := m) (F := ⟨3, 6, b12⟩) rfl rfl ?_
    show okCs T (callN T m) b12 [.val (.ref s), .val (.lst names), .val (.int ((deep + 1 : Nat) : Int)), .no, .no, .no] h _ _
    unfold b12
    rw [okCs_cons]
    simp only [okC_asg, okE_call, okEs_cons, okEs_nil, okE_v, okE_c, List.getElem?_cons_zero, onVal_val]
    refine (law_nextU hs (by decide) (by decide) (by omega)).mono fun r h1 ⟨way, e, w1, w2, U1⟩ => ?_
    subst e
    simp only [List.set_cons_succ, List.set_cons_zero]
    have two : ∀ {K : Nat} {a b : D}, deep + 1 ≤ K → (∀ k, slim k a) → (∀ k, slim k b) → (isS "number" a && valueB b || isS "box" a && labelB b) = true → slim K (.tup [a, b]) ∧ 0 < sumD K (.tup [a, b]) ∧ sumD K (.tup [a, b]) ≤ deep + 1 := fun {K a b} hK ga gb hv => by
      obtain ⟨k, rfl⟩ : ∃ k, K = k + 1 := ⟨K - 1, by omega⟩
      refine ⟨slim_mk (by simp) fun d hd => ?_, ?_⟩
      · simp only [List.mem_cons, List.not_mem_nil, or_false] at hd
        rcases hd with rfl | rfl
        · exact ga k
        · exact gb k
      · have : sumD (k + 1) (.tup [a, b]) = 1 := by
          simp only [sumD, hv, if_true]
        omega
    by_cases c1 : ((deep + 1 : Nat) : Int) = 1 ∨ way < 4
    · refine okCs_out ?_
      have cond : okE T (callN T m) (.or (.cmp .eq (.v 2) (.c (.int 1))) (.cmp .lt (.v 3) (.c (.int 4)))) [.val (.ref s), .val (.lst names), .val (.int ((deep + 1 : Nat) : Int)), .val (.int way), .no, .no] h1 (fun d h' => d = .bl true ∧ h' = h1) := by
        simp (decide := true) only [okCs_nil, okCs_cons, okC_asg, okC_own, okC_stIx, okC_aug, okC_app, okC_ex, okC_ret, okC_retN, okC_ite, okC_for, okE_c, okE_no, okE_v, okE_pk, okE_g, okE_bin, okE_neg, okE_cmp, okE_chain, okE_and, okE_or, okE_not, okE_ite, okE_isi, okE_b1, okE_b2, okE_bm, okE_call, okE_ix, okE_sl, okE_tup, okE_lst, okE_dct, okE_new, okE_lc, okEs_nil, okEs_cons, onVal_val, onOwn_own, onO_some, onO_none, onO_map, onB_bl, onCell_lst, onCell_dct, onInts_int, okO_ok, List.getElem?_cons_zero, List.getElem?_cons_succ, List.set_cons_zero, List.set_cons_succ, isNo, boundC, c_eq, c_lt]
        rcases c1 with c1 | c1 <;> by_cases c2 : ((deep + 1 : Nat) : Int) = 1 <;> simp [c1, c2]
      rw [okC_ite]
      refine cond.mono fun d h' ⟨e1, e2⟩ => ?_
      subst e1 e2
      simp only [onB_bl, if_true]
      by_cases c3 : way % 2 = 0
      · refine okCs_out ?_
        simp (decide := true) only [okCs_nil, okCs_cons, okC_asg, okC_own, okC_stIx, okC_aug, okC_app, okC_ex, okC_ret, okC_retN, okC_ite, okC_for, okE_c, okE_no, okE_v, okE_pk, okE_g, okE_bin, okE_neg, okE_cmp, okE_chain, okE_and, okE_or, okE_not, okE_ite, okE_isi, okE_b1, okE_b2, okE_bm, okE_call, okE_ix, okE_sl, okE_tup, okE_lst, okE_dct, okE_new, okE_lc, okEs_nil, okEs_cons, onVal_val, onOwn_own, onO_some, onO_none, onO_map, onB_bl, onCell_lst, onCell_dct, onInts_int, okO_ok, List.getElem?_cons_zero, List.getElem?_cons_succ, List.set_cons_zero, List.set_cons_succ, isNo, boundC, b_mod (show (0 : Int) < 2 by decide), c_eq, c3, l_lst]
        refine (law_nextU U1.st (size := names.length) (by have := hn.ne; cases names with | nil => exact absurd rfl this | cons _ _ => simp only [List.length_cons]; omega) (by have := hn.le; omega) (by omega)).mono fun r h2 ⟨i, e, i1, i2, U2⟩ => ?_
        subst e
        obtain ⟨d, ed, ld⟩ := hn.at i1 i2
        simp only [ix_lst, ed, onO_some]
        exact ⟨(show (2 : Nat) ≤ 16777216 by decide), fun K hK => two hK (slim_atom trivial) (slim_lab ld) (by rw [ld, Bool.and_true, Bool.or_eq_true]; exact .inr (by decide +kernel)), U1.trans U2⟩
      · refine okCs_step (Γ' := [.val (.ref s), .val (.lst names), .val (.int ((deep + 1 : Nat) : Int)), .val (.int way), .no, .no]) (h' := h') (by simp (decide := true) [okCs_nil, okCs_cons, okC_asg, okC_own, okC_stIx, okC_aug, okC_app, okC_ex, okC_ret, okC_retN, okC_ite, okC_for, okE_c, okE_no, okE_v, okE_pk, okE_g, okE_bin, okE_neg, okE_cmp, okE_chain, okE_and, okE_or, okE_not, okE_ite, okE_isi, okE_b1, okE_b2, okE_bm, okE_call, okE_ix, okE_sl, okE_tup, okE_lst, okE_dct, okE_new, okE_lc, okEs_nil, okEs_cons, onVal_val, onOwn_own, onO_some, onO_none, onO_map, onB_bl, onCell_lst, onCell_dct, onInts_int, okO_ok, List.getElem?_cons_zero, List.getElem?_cons_succ, List.set_cons_zero, List.set_cons_succ, isNo, boundC, b_mod (show (0 : Int) < 2 by decide), c_eq, c3]) ?_
        simp only [okCs_cons, okC_ret, okE_tup, okEs_cons, okEs_nil, okE_c, okE_ix, okE_lst, okE_call, okE_v, List.getElem?_cons_zero, onVal_val]
        refine (law_nextU U1.st (size := 4) (by decide) (by decide) (by omega)).mono fun r h2 ⟨i, e, i1, i2, U2⟩ => ?_
        refine (law_nextU U2.st (size := 1000) (by decide) (by decide) (by omega)).mono fun r3 h3 ⟨j, e3, j1, j2, U3⟩ => ?_
        refine ⟨(show (3 : Nat) ≤ 16777216 by decide), ?_⟩
        refine (law_nextU U3.st (size := 3) (by decide) (by decide) (by omega)).mono fun r4 h4 ⟨l, e4, l1, l2, U4⟩ => ?_
        subst e e3 e4
        have U := ((U1.trans U2).trans U3).trans U4
        have nv : ∀ v : Int, 0 ≤ v → v < 1000 → (isS "number" (.str "number") && valueB (.int v) || isS "box" (.str "number") && labelB (.int v)) = true := fun v v1 v2 => by
          rw [Bool.or_eq_true, Bool.and_eq_true]
          exact .inl ⟨by decide +kernel, by simp [valueB, v1, v2]⟩
        have hl : l = 0 ∨ l = 1 ∨ l = 2 := by omega
        rcases hl with rfl | rfl | rfl
        · simp only [ix_lst, at0, onO_some]
          exact ⟨(show (2 : Nat) ≤ 16777216 by decide), fun K hK => two hK (slim_atom trivial) (slim_atom trivial) (nv i i1 (by omega)), U⟩
        · simp only [ix_lst, at1, onO_some]
          exact ⟨(show (2 : Nat) ≤ 16777216 by decide), fun K hK => two hK (slim_atom trivial) (slim_atom trivial) (nv j j1 j2), U⟩
        · simp only [ix_lst, at2, onO_some]
          exact ⟨(show (2 : Nat) ≤ 16777216 by decide), fun K hK => two hK (slim_atom trivial) (slim_atom trivial) (nv 999 (by decide) (by decide)), U⟩
    · have d1 : 1 ≤ deep := by omega
      have n1 : ¬ ((deep + 1 : Nat) : Int) = 1 := by omega
      have n2 : ¬ way < 4 := by omega
      refine okCs_step (Γ' := [.val (.ref s), .val (.lst names), .val (.int ((deep + 1 : Nat) : Int)), .val (.int way), .no, .no]) (h' := h1) (by
        simp (decide := true) only [okCs_nil, okCs_cons, okC_asg, okC_own, okC_stIx, okC_aug, okC_app, okC_ex, okC_ret, okC_retN, okC_ite, okC_for, okE_c, okE_no, okE_v, okE_pk, okE_g, okE_bin, okE_neg, okE_cmp, okE_chain, okE_and, okE_or, okE_not, okE_ite, okE_isi, okE_b1, okE_b2, okE_bm, okE_call, okE_ix, okE_sl, okE_tup, okE_lst, okE_dct, okE_new, okE_lc, okEs_nil, okEs_cons, onVal_val, onOwn_own, onO_some, onO_none, onO_map, onB_bl, onCell_lst, onCell_dct, onInts_int, okO_ok, List.getElem?_cons_zero, List.getElem?_cons_succ, List.set_cons_zero, List.set_cons_succ, isNo, boundC, c_eq, c_lt, n1, n2]
        simp) ?_
      rw [okCs_cons]
      simp only [okC_asg, okE_ix, okE_lst, okE_call, okEs_cons, okEs_nil, okE_v, okE_c, List.getElem?_cons_zero, onVal_val]
      refine ⟨(show (5 : Nat) ≤ 16777216 by decide), ?_⟩
      refine (law_nextU U1.st (size := 5) (by decide) (by decide) (by omega)).mono fun r h2 ⟨i, e, i1, i2, U2⟩ => ?_
      subst e
      obtain ⟨j, ej, hj, ea⟩ := at_some (ds := [D.str "+", D.str "-", D.str "*", D.str "<", D.str "="]) i1 i2
      have hs : ∃ z : Str, [D.str "+", D.str "-", D.str "*", D.str "<", D.str "="][j] = .str z ∧ inS signW (.str z) = true := by
        have hj : j < 5 := hj
        have : j = 0 ∨ j = 1 ∨ j = 2 ∨ j = 3 ∨ j = 4 := by omega
        rcases this with rfl | rfl | rfl | rfl | rfl <;> exact ⟨_, rfl, by decide +kernel⟩
      obtain ⟨z, ez, hz⟩ := hs
      rw [ez] at ea
      simp only [ix_lst, ea, onO_some, List.set_cons_succ, List.set_cons_zero]
      rw [okCs_cons]
      have ed : ((deep + 1 : Nat) : Int) - 1 = (deep : Int) := by omega
      simp only [okC_asg, okE_call, okEs_cons, okEs_nil, okE_v, okE_c, okE_bin, b_sub, onO_some, List.getElem?_cons_zero, List.getElem?_cons_succ, onVal_val, ed]
      refine (law_sum_gen deep d1 h2 s names U2.st hn m (by omega)).mono fun r3 h3 ⟨g3, U3⟩ => ?_
      simp only [okCs_cons, okC_ret, okE_tup, okE_call, okEs_cons, okEs_nil, okE_v, okE_c, okE_bin, b_sub, onO_some, List.getElem?_cons_zero, List.getElem?_cons_succ, List.set_cons_succ, List.set_cons_zero, onVal_val, ed]
      refine (law_sum_gen deep d1 h3 s names U3.st hn m (by omega)).mono fun r4 h4 ⟨g4, U4⟩ => ?_
      refine ⟨(show (3 : Nat) ≤ 16777216 by decide), fun K hK => ?_, ((U1.trans U2).trans U3).trans U4⟩
      obtain ⟨k, rfl⟩ : ∃ k, K = k + 1 := ⟨K - 1, by omega⟩
      obtain ⟨a1, a2, a3⟩ := g3 k (by omega)
      obtain ⟨b1, b2, b3⟩ := g4 k (by omega)
      refine ⟨slim_mk (by simp) fun d hd => ?_, ?_⟩
      · simp only [List.mem_cons, List.not_mem_nil, or_false] at hd
        rcases hd with rfl | rfl | rfl
        · exact slim_atom trivial k
        · exact a1
        · exact b1
      · have : sumD (k + 1) (.tup [.str z, r3, r4]) = 1 + max (sumD k r3) (sumD k r4) := by
          simp only [sumD, hz, a2, b2, decide_true, Bool.and_self, if_true]
        omega
end K81

set_option linter.all false
set_option Elab.async false
set_option maxRecDepth 100000
set_option maxHeartbeats 4000000
namespace K81
open PySem DC
/-- the room's cell: lines and asks that are left -/
def rmCell (L A : Nat) : Cell := .dct [.inr "lines", .inr "asks"] [.int L, .int A]
/-- only the state's cell and the room's are others -/
structure Upd2 (s q : Nat) (h h' : List Cell) (L A : Nat) : Prop where
  st : stOk h'[s]?
  rm : h'[q]? = some (rmCell L A)
  len : h'.length = h.length
  oth : ∀ j, j ≠ s → j ≠ q → h'[j]? = h[j]?
theorem Upd2.trans {s q : Nat} {h h1 h2 : List Cell} {L A L' A' : Nat} (a : Upd2 s q h h1 L A) (b : Upd2 s q h1 h2 L' A') : Upd2 s q h h2 L' A' := ⟨b.st, b.rm, b.len.trans a.len, fun j hj hq => (b.oth j hj hq).trans (a.oth j hj hq)⟩
theorem Upd2.of {s q : Nat} (hsq : s ≠ q) {h h1 h2 : List Cell} {L A : Nat} (a : Upd2 s q h h1 L A) (b : Upd s h1 h2) : Upd2 s q h h2 L A := ⟨b.st, (b.oth q fun z => hsq z.symm).trans a.rm, b.len.trans a.len, fun j hj hq => (b.oth j hj).trans (a.oth j hj hq)⟩
theorem rm_lines {h : List Cell} {q L A : Nat} (e : h[q]? = some (rmCell L A)) : ixD h (.ref q) (.str "lines") = some (.int L) := by
  unfold ixD
  simp only [dctOf, e, rmCell]
  rfl
theorem rm_asks {h : List Cell} {q L A : Nat} (e : h[q]? = some (rmCell L A)) : ixD h (.ref q) (.str "asks") = some (.int A) := by
  unfold ixD
  simp only [dctOf, e, rmCell]
  rfl
theorem rm_setL {h : List Cell} {q L A : Nat} {v : Nat} (e : h[q]? = some (rmCell L A)) : stIxD h (.ref q) (.str "lines") (.int v) = some (h.set q (rmCell v A)) := by
  unfold stIxD
  simp only [e]
  rfl
theorem rm_setA {h : List Cell} {q L A : Nat} {v : Nat} (e : h[q]? = some (rmCell L A)) : stIxD h (.ref q) (.str "asks") (.int v) = some (h.set q (rmCell L v)) := by
  unfold stIxD
  simp only [e]
  rfl
end K81

set_option linter.all false
set_option Elab.async false
set_option maxRecDepth 100000
set_option maxHeartbeats 4000000
namespace K81
open PySem DC
def LinesSpec (ifs : Nat) : Prop := ∀ (h : List Cell) (s q : Nat) (names : List D) (L A : Nat) (most : Int) (n : Nat), s ≠ q → stOk h[s]? → h[q]? = some (rmCell L A) → NmOk names → 1 ≤ most → most ≤ 17 → 8 + 2 * (3 - ifs) ≤ n →
  okO (callN T n 14 [.ref s, .lst names, .ref q, .int ifs, .int most] h) fun r h' => ∃ L' A' x y, Upd2 s q h h' L' A' ∧ L' + x = L ∧ A' + y = A ∧ ∀ K, 6 + 2 * (3 - ifs) ≤ K → slim K r ∧ linesC K ifs r = some (x, y)
def LineSpec (ifs : Nat) : Prop := ∀ (h : List Cell) (s q : Nat) (names : List D) (L A : Nat) (n : Nat), s ≠ q → stOk h[s]? → h[q]? = some (rmCell (L + 1) A) → NmOk names → 7 + 2 * (3 - ifs) ≤ n →
  okO (callN T n 13 [.ref s, .lst names, .ref q, .int ifs] h) fun r h' => ∃ L' A' x y, Upd2 s q h h' L' A' ∧ L' + x = L + 1 ∧ A' + y = A ∧ ∀ K, 5 + 2 * (3 - ifs) ≤ K → slim K r ∧ ∀ last, lineC K (linesC K) ifs last r = some (x, y)
theorem Upd2.refl {s q : Nat} {h : List Cell} {L A : Nat} (hs : stOk h[s]?) (e : h[q]? = some (rmCell L A)) : Upd2 s q h h L A := ⟨hs, e, rfl, fun _ _ _ => rfl⟩
theorem Upd2.set {s q : Nat} {h h1 : List Cell} {L A : Nat} (L' A' : Nat) (hsq : s ≠ q) (a : Upd2 s q h h1 L A) : Upd2 s q h (h1.set q (rmCell L' A')) L' A' := ⟨by rw [List.getElem?_set_ne (fun z => hsq z.symm)]; exact a.st, set_get a.rm, by rw [List.length_set]; exact a.len, fun j hj hq => by rw [List.getElem?_set_ne (fun z => hq z.symm)]; exact a.oth j hj hq⟩
theorem law_sum4 {h : List Cell} {s : Nat} {names : List D} (hs : stOk h[s]?) (hn : NmOk names) {n : Nat} (hm : 6 ≤ n) : okO (callN T n 12 [.ref s, .lst names, .int 4] h) fun r h' => (∀ K, 4 ≤ K → slim K r ∧ sumOk K r = true) ∧ Upd s h h' := by
  have g := law_sum_gen 4 (by decide) h s names hs hn n (by omega)
  refine okO.mono g fun r h' ⟨q, U⟩ => ⟨fun K hK => ?_, U⟩
  obtain ⟨a, b, c⟩ := q K hK
  refine ⟨a, ?_⟩
  unfold sumOk
  rw [Bool.and_eq_true, decide_eq_true_eq, decide_eq_true_eq]
  exact ⟨b, by omega⟩
theorem sumE {Γ : List Slot} {h : List Cell} {s : Nat} {names : List D} {m : Nat} {Q : D → List Cell → Prop} (g0 : Γ[0]? = some (.val (.ref s))) (g1 : Γ[1]? = some (.val (.lst names))) (hs : stOk h[s]?) (hn : NmOk names) (hm : 6 ≤ m) (k : ∀ r h', (∀ K, 4 ≤ K → slim K r ∧ sumOk K r = true) → Upd s h h' → Q r h') : okE T (callN T m) (.call 12 [(.v 0), (.v 1), (.c (.int 4))]) Γ h Q := by
  simp only [okE_call, okEs_cons, okEs_nil, okE_v, okE_c, g0, g1, onVal_val]
  exact (law_sum4 hs hn hm).mono fun r h' ⟨a, b⟩ => k r h' a b
theorem pickE {Γ : List Slot} {h : List Cell} {s : Nat} {names : List D} {m : Nat} {Q : D → List Cell → Prop} (g0 : Γ[0]? = some (.val (.ref s))) (g1 : Γ[1]? = some (.val (.lst names))) (hs : stOk h[s]?) (hn : NmOk names) (hm : 1 ≤ m) (k : ∀ d h', labelB d = true → Upd s h h' → Q d h') : okE T (callN T m) (.ix (.v 1) (.call 10 [(.v 0), (.b1 .len (.v 1))])) Γ h Q := by
  simp only [okE_ix, okE_call, okEs_cons, okEs_nil, okE_v, okE_b1, g0, g1, onVal_val, l_lst, onO_some]
  refine (law_nextU hs (size := names.length) (by have := hn.ne; cases names with | nil => exact absurd rfl this | cons _ _ => simp only [List.length_cons]; omega) (by have := hn.le; omega) hm).mono fun r h2 ⟨i, e, i1, i2, U2⟩ => ?_
  subst e
  obtain ⟨d, ed, ld⟩ := hn.at i1 i2
  simp only [ix_lst, ed, onO_some]
  exact k d h2 ld U2
theorem lineC_let {K : Nat} {sub : Int → D → Option (Nat × Nat)} {ifs : Int} {last : Bool} {b c : D} (hb : labelB b = true) (hc : sumOk K c = true) : lineC K sub ifs last (.tup [.str "let", b, c]) = some (1, 0) := by
  have e1 : isS "get" (.str "let") = false := by decide +kernel
  have e2 : inS ["put", "let"] (.str "let") = true := by decide +kernel
  have e3 : isS "put" (.str "let") = false := by decide +kernel
  simp [lineC, e1, e2, e3, hb, hc]
theorem lineC_put {K : Nat} {sub : Int → D → Option (Nat × Nat)} {ifs : Int} {last : Bool} {b c : D} (hb : labelB b = true) (hc : sumOk K c = true) : lineC K sub ifs last (.tup [.str "put", b, c]) = some (1, 1) := by
  have e1 : isS "get" (.str "put") = false := by decide +kernel
  have e2 : inS ["put", "let"] (.str "put") = true := by decide +kernel
  have e3 : isS "put" (.str "put") = true := by decide +kernel
  simp [lineC, e1, e2, e3, hb, hc]
theorem lineC_get {K : Nat} {sub : Int → D → Option (Nat × Nat)} {ifs : Int} {last : Bool} {b c : D} (hb : labelB b = true) (hc : labelB c = true) : lineC K sub ifs last (.tup [.str "get", b, c]) = some (1, 1) := by
  have e1 : isS "get" (.str "get") = true := by decide +kernel
  simp [lineC, e1, hb, hc]
theorem lineC_if {K : Nat} {sub : Int → D → Option (Nat × Nat)} {ifs : Int} {last : Bool} {b c e : D} {x y x' y' : Nat} (hi : ifs < 3) (hb : sumOk K b = true) (hc : sub (ifs + 1) c = some (x, y)) (he : sub (ifs + 1) e = some (x', y')) : lineC K sub ifs last (.tup [.str "if", b, c, e]) = some (1 + x + x', y + y') := by
  have e1 : isS "if" (.str "if") = true := by decide +kernel
  simp [lineC, e1, hb, hc, he, hi]
theorem slim3 {K : Nat} {a b c : D} (ha : slim K a) (hb : slim K b) (hc : slim K c) : slim (K + 1) (.tup [a, b, c]) := slim_mk (by simp) fun d hd => by
  simp only [List.mem_cons, List.not_mem_nil, or_false] at hd
  rcases hd with rfl | rfl | rfl <;> assumption
theorem slim4 {K : Nat} {a b c e : D} (ha : slim K a) (hb : slim K b) (hc : slim K c) (he : slim K e) : slim (K + 1) (.tup [a, b, c, e]) := slim_mk (by simp) fun d hd => by
  simp only [List.mem_cons, List.not_mem_nil, or_false] at hd
  rcases hd with rfl | rfl | rfl | rfl <;> assumption
theorem line_of (ifs : Nat) (hi : ifs ≤ 3) (ih : ifs < 3 → LinesSpec (ifs + 1)) : LineSpec ifs := by
  intro h s q names L A n hsq hs hq hn hm
  obtain ⟨m, rfl⟩ : ∃ m, n = m + 1 := ⟨n - 1, by omega⟩
  refine ok_call (n := m) (F := ⟨4, 7, b13⟩) rfl rfl ?_
  show okCs T (callN T m) b13 [.val (.ref s), .val (.lst names), .val (.ref q), .val (.int ifs), .no, .no, .no] h _ _
  unfold b13
  have e1 : ((L + 1 : Nat) : Int) - 1 = (L : Int) := by omega
  refine okCs_step (Γ' := [.val (.ref s), .val (.lst names), .val (.ref q), .val (.int ifs), .no, .no, .no]) (h' := h.set q (rmCell L A)) (by
    simp only [okCs_nil, okCs_cons, okC_asg, okC_own, okC_stIx, okC_aug, okC_app, okC_ex, okC_ret, okC_retN, okC_ite, okC_for, okE_c, okE_no, okE_v, okE_pk, okE_g, okE_bin, okE_neg, okE_cmp, okE_chain, okE_and, okE_or, okE_not, okE_ite, okE_isi, okE_b1, okE_b2, okE_bm, okE_call, okE_ix, okE_sl, okE_tup, okE_lst, okE_dct, okE_new, okE_lc, okEs_nil, okEs_cons, onVal_val, onOwn_own, onO_some, onO_none, onO_map, onB_bl, onCell_lst, onCell_dct, onInts_int, okO_ok, List.getElem?_cons_zero, List.getElem?_cons_succ, List.set_cons_zero, List.set_cons_succ, isNo, boundC, rm_lines hq, b_sub, e1, rm_setL hq]
    exact ⟨trivial, trivial⟩) ?_
  have U0 : Upd2 s q h (h.set q (rmCell L A)) L A := (Upd2.refl hs hq).set L A hsq
  generalize h.set q (rmCell L A) = h1 at U0 ⊢
  rw [okCs_cons]
  simp only [okC_asg, okE_call, okEs_cons, okEs_nil, okE_v, okE_c, List.getElem?_cons_zero, onVal_val]
  refine (law_nextU U0.st (size := 8) (by decide) (by decide) (by omega)).mono fun r h2 ⟨way, e, w1, w2, V⟩ => ?_
  subst e
  simp only [List.set_cons_succ, List.set_cons_zero]
  have U1 := U0.of hsq V
  clear U0 V
  by_cases c1 : 5 < way ∧ ifs < 3
  · refine okCs_out ?_
    have cond : okE T (callN T m) (.and (.cmp .gt (.v 4) (.c (.int 5))) (.cmp .lt (.v 3) (.c (.int 3)))) [.val (.ref s), .val (.lst names), .val (.ref q), .val (.int ifs), .val (.int way), .no, .no] h2 (fun d h' => d = .bl true ∧ h' = h2) := by
      have c2 : (ifs : Int) < 3 := by omega
      simp (decide := true) [okCs_nil, okCs_cons, okC_asg, okC_own, okC_stIx, okC_aug, okC_app, okC_ex, okC_ret, okC_retN, okC_ite, okC_for, okE_c, okE_no, okE_v, okE_pk, okE_g, okE_bin, okE_neg, okE_cmp, okE_chain, okE_and, okE_or, okE_not, okE_ite, okE_isi, okE_b1, okE_b2, okE_bm, okE_call, okE_ix, okE_sl, okE_tup, okE_lst, okE_dct, okE_new, okE_lc, okEs_nil, okEs_cons, onVal_val, onOwn_own, onO_some, onO_none, onO_map, onB_bl, onCell_lst, onCell_dct, onInts_int, okO_ok, List.getElem?_cons_zero, List.getElem?_cons_succ, List.set_cons_zero, List.set_cons_succ, isNo, boundC, c_gt, c_lt, c1.1, c2]
    rw [okC_ite]
    refine cond.mono fun d h' ⟨e1, e2⟩ => ?_
    subst e1 e2
    have ei : (ifs : Int) + 1 = ((ifs + 1 : Nat) : Int) := by omega
    simp only [onB_bl, if_true]
    rw [okCs_cons]
    simp only [okC_asg, okE_call, okEs_cons, okEs_nil, okE_v, okE_c, okE_bin, List.getElem?_cons_zero, List.getElem?_cons_succ, onVal_val, b_add, onO_some, ei]
    refine (ih c1.2 h' s q names L A 5 m hsq U1.st U1.rm hn (by decide) (by decide) (by omega)).mono fun r3 h3 ⟨L3, A3, x3, y3, U3, eL3, eA3, g3⟩ => ?_
    simp only [List.set_cons_succ, List.set_cons_zero]
    simp only [okCs_cons, okC_ret, okE_tup, okEs_cons, okEs_nil, okE_c]
    refine sumE rfl rfl U3.st hn (by omega) fun r4 h4 g4 U4 => ?_
    have U5 := U3.of hsq U4
    simp only [okE_call, okEs_cons, okEs_nil, okE_v, okE_c, okE_bin, List.getElem?_cons_zero, List.getElem?_cons_succ, onVal_val, b_add, onO_some, ei]
    refine (ih c1.2 h4 s q names L3 A3 4 m hsq U5.st U5.rm hn (by decide) (by decide) (by omega)).mono fun r6 h6 ⟨L6, A6, x6, y6, U6, eL6, eA6, g6⟩ => ?_
    refine ⟨(show (4 : Nat) ≤ 16777216 by decide), L6, A6, 1 + x3 + x6, y3 + y6, (U1.trans U5).trans U6, by omega, by omega, fun K hK => ?_⟩
    obtain ⟨k, rfl⟩ : ∃ k, K = k + 1 := ⟨K - 1, by omega⟩
    refine ⟨slim4 (slim_atom trivial k) (g4 k (by omega)).1 (g3 k (by omega)).1 (g6 k (by omega)).1, fun last => ?_⟩
    refine lineC_if (by omega) (g4 (k + 1) (by omega)).2 ?_ ?_
    · rw [ei]
      exact (g3 (k + 1) (by omega)).2
    · rw [ei]
      exact (g6 (k + 1) (by omega)).2
  · have cond : okE T (callN T m) (.and (.cmp .gt (.v 4) (.c (.int 5))) (.cmp .lt (.v 3) (.c (.int 3)))) [.val (.ref s), .val (.lst names), .val (.ref q), .val (.int ifs), .val (.int way), .no, .no] h2 (fun d h' => d = .bl false ∧ h' = h2) := by
      simp (decide := true) only [okCs_nil, okCs_cons, okC_asg, okC_own, okC_stIx, okC_aug, okC_app, okC_ex, okC_ret, okC_retN, okC_ite, okC_for, okE_c, okE_no, okE_v, okE_pk, okE_g, okE_bin, okE_neg, okE_cmp, okE_chain, okE_and, okE_or, okE_not, okE_ite, okE_isi, okE_b1, okE_b2, okE_bm, okE_call, okE_ix, okE_sl, okE_tup, okE_lst, okE_dct, okE_new, okE_lc, okEs_nil, okEs_cons, onVal_val, onOwn_own, onO_some, onO_none, onO_map, onB_bl, onCell_lst, onCell_dct, onInts_int, okO_ok, List.getElem?_cons_zero, List.getElem?_cons_succ, List.set_cons_zero, List.set_cons_succ, isNo, boundC, c_gt, c_lt]
      by_cases c2 : 5 < way
      · have c3 : ¬ (ifs : Int) < 3 := by omega
        simp [c2, c3]
      · simp [c2]
    refine okCs_step (Γ' := [.val (.ref s), .val (.lst names), .val (.ref q), .val (.int ifs), .val (.int way), .no, .no]) (h' := h2) (by
      rw [okC_ite]
      refine cond.mono fun d h' ⟨e1, e2⟩ => ?_
      subst e1 e2
      simp only [onB_bl, Bool.false_eq_true, if_false, okCs_nil]
      exact ⟨trivial, trivial⟩) ?_
    rw [okCs_cons, okC_asg]
    refine pickE rfl rfl U1.st hn (by omega) fun nm h3 ln U3 => ?_
    have U4 := U1.of hsq U3
    clear U1 U3 cond
    simp only [List.set_cons_succ, List.set_cons_zero]
    by_cases c2 : 5 ≤ way ∨ A = 0
    · refine okCs_out ?_
      have cond : okE T (callN T m) (.or (.cmp .eq (.v 4) (.c (.int 5))) (.or (.cmp .gt (.v 4) (.c (.int 5))) (.cmp .eq (.ix (.v 2) (.c (.str "asks"))) (.c (.int 0))))) [.val (.ref s), .val (.lst names), .val (.ref q), .val (.int ifs), .val (.int way), .val nm, .no] h3 (fun d h' => d = .bl true ∧ h' = h3) := by
        simp (decide := true) only [okCs_nil, okCs_cons, okC_asg, okC_own, okC_stIx, okC_aug, okC_app, okC_ex, okC_ret, okC_retN, okC_ite, okC_for, okE_c, okE_no, okE_v, okE_pk, okE_g, okE_bin, okE_neg, okE_cmp, okE_chain, okE_and, okE_or, okE_not, okE_ite, okE_isi, okE_b1, okE_b2, okE_bm, okE_call, okE_ix, okE_sl, okE_tup, okE_lst, okE_dct, okE_new, okE_lc, okEs_nil, okEs_cons, onVal_val, onOwn_own, onO_some, onO_none, onO_map, onB_bl, onCell_lst, onCell_dct, onInts_int, okO_ok, List.getElem?_cons_zero, List.getElem?_cons_succ, List.set_cons_zero, List.set_cons_succ, isNo, boundC, c_gt, c_eq, rm_asks U4.rm]
        by_cases d1 : way = 5 <;> by_cases d2 : 5 < way <;> by_cases d3 : (A : Int) = 0 <;> simp [d1, d2, d3] <;> omega
      rw [okC_ite]
      refine cond.mono fun d h' ⟨e1, e2⟩ => ?_
      subst e1 e2
      simp only [onB_bl, if_true]
      simp only [okCs_cons, okC_ret, okE_tup, okEs_cons, okEs_nil, okE_c, okE_v, List.getElem?_cons_zero, List.getElem?_cons_succ, onVal_val]
      refine sumE rfl rfl U4.st hn (by omega) fun r5 h5 g5 U5 => ?_
      refine ⟨(show (3 : Nat) ≤ 16777216 by decide), L, A, 1, 0, U4.of hsq U5, by omega, by omega, fun K hK => ?_⟩
      obtain ⟨k, rfl⟩ : ∃ k, K = k + 1 := ⟨K - 1, by omega⟩
      exact ⟨slim3 (slim_atom trivial k) (slim_lab ln k) (g5 k (by omega)).1, fun last => lineC_let ln (g5 (k + 1) (by omega)).2⟩
    · have cond : okE T (callN T m) (.or (.cmp .eq (.v 4) (.c (.int 5))) (.or (.cmp .gt (.v 4) (.c (.int 5))) (.cmp .eq (.ix (.v 2) (.c (.str "asks"))) (.c (.int 0))))) [.val (.ref s), .val (.lst names), .val (.ref q), .val (.int ifs), .val (.int way), .val nm, .no] h3 (fun d h' => d = .bl false ∧ h' = h3) := by
        have d1 : ¬ way = 5 := by omega
        have d2 : ¬ 5 < way := by omega
        have d3 : ¬ (A : Int) = 0 := by omega
        simp (decide := true) only [okCs_nil, okCs_cons, okC_asg, okC_own, okC_stIx, okC_aug, okC_app, okC_ex, okC_ret, okC_retN, okC_ite, okC_for, okE_c, okE_no, okE_v, okE_pk, okE_g, okE_bin, okE_neg, okE_cmp, okE_chain, okE_and, okE_or, okE_not, okE_ite, okE_isi, okE_b1, okE_b2, okE_bm, okE_call, okE_ix, okE_sl, okE_tup, okE_lst, okE_dct, okE_new, okE_lc, okEs_nil, okEs_cons, onVal_val, onOwn_own, onO_some, onO_none, onO_map, onB_bl, onCell_lst, onCell_dct, onInts_int, okO_ok, List.getElem?_cons_zero, List.getElem?_cons_succ, List.set_cons_zero, List.set_cons_succ, isNo, boundC, c_gt, c_eq, rm_asks U4.rm]
        simp [d1, d2]
        omega
      refine okCs_step (Γ' := [.val (.ref s), .val (.lst names), .val (.ref q), .val (.int ifs), .val (.int way), .val nm, .no]) (h' := h3) (by
        rw [okC_ite]
        refine cond.mono fun d h' ⟨e1, e2⟩ => ?_
        subst e1 e2
        simp only [onB_bl, Bool.false_eq_true, if_false, okCs_nil]
        exact ⟨trivial, trivial⟩) ?_
      obtain ⟨B, rfl⟩ : ∃ B, A = B + 1 := ⟨A - 1, by omega⟩
      have e2 : ((B + 1 : Nat) : Int) - 1 = (B : Int) := by omega
      refine okCs_step (Γ' := [.val (.ref s), .val (.lst names), .val (.ref q), .val (.int ifs), .val (.int way), .val nm, .no]) (h' := h3.set q (rmCell L B)) (by
        simp only [okCs_nil, okCs_cons, okC_asg, okC_own, okC_stIx, okC_aug, okC_app, okC_ex, okC_ret, okC_retN, okC_ite, okC_for, okE_c, okE_no, okE_v, okE_pk, okE_g, okE_bin, okE_neg, okE_cmp, okE_chain, okE_and, okE_or, okE_not, okE_ite, okE_isi, okE_b1, okE_b2, okE_bm, okE_call, okE_ix, okE_sl, okE_tup, okE_lst, okE_dct, okE_new, okE_lc, okEs_nil, okEs_cons, onVal_val, onOwn_own, onO_some, onO_none, onO_map, onB_bl, onCell_lst, onCell_dct, onInts_int, okO_ok, List.getElem?_cons_zero, List.getElem?_cons_succ, List.set_cons_zero, List.set_cons_succ, isNo, boundC, rm_asks U4.rm, b_sub, e2, rm_setA U4.rm]
        exact ⟨trivial, trivial⟩) ?_
      have U5 := U4.set L B hsq
      generalize h3.set q (rmCell L B) = h4 at U5 ⊢
      by_cases c3 : way < 3
      · refine okCs_out ?_
        simp only [okC_ite, okE_cmp, okE_v, okE_c, List.getElem?_cons_zero, List.getElem?_cons_succ, onVal_val, c_lt, onO_some, c3, decide_true, onB_bl, if_true]
        simp only [okCs_cons, okC_ret, okE_tup, okEs_cons, okEs_nil, okE_c, okE_v, List.getElem?_cons_zero, List.getElem?_cons_succ, onVal_val]
        refine pickE rfl rfl U5.st hn (by omega) fun r6 h6 g6 U6 => ?_
        refine ⟨(show (3 : Nat) ≤ 16777216 by decide), L, B, 1, 1, U5.of hsq U6, by omega, by omega, fun K hK => ?_⟩
        obtain ⟨k, rfl⟩ : ∃ k, K = k + 1 := ⟨K - 1, by omega⟩
        exact ⟨slim3 (slim_atom trivial k) (slim_lab ln k) (slim_lab g6 k), fun last => lineC_get ln g6⟩
      · refine okCs_step (Γ' := [.val (.ref s), .val (.lst names), .val (.ref q), .val (.int ifs), .val (.int way), .val nm, .no]) (h' := h4) (by
          simp only [okC_ite, okE_cmp, okE_v, okE_c, List.getElem?_cons_zero, List.getElem?_cons_succ, onVal_val, c_lt, onO_some, c3, decide_false, onB_bl, Bool.false_eq_true, if_false, okCs_nil]
          exact ⟨trivial, trivial⟩) ?_
        simp only [okCs_cons, okC_ret, okE_tup, okEs_cons, okEs_nil, okE_c, okE_v, List.getElem?_cons_zero, List.getElem?_cons_succ, onVal_val]
        refine sumE rfl rfl U5.st hn (by omega) fun r6 h6 g6 U6 => ?_
        refine ⟨(show (3 : Nat) ≤ 16777216 by decide), L, B, 1, 1, U5.of hsq U6, by omega, by omega, fun K hK => ?_⟩
        obtain ⟨k, rfl⟩ : ∃ k, K = k + 1 := ⟨K - 1, by omega⟩
        exact ⟨slim3 (slim_atom trivial k) (slim_lab ln k) (g6 k (by omega)).1, fun last => lineC_put ln (g6 (k + 1) (by omega)).2⟩
theorem goL_put {f : Bool → D → Option (Nat × Nat)} {d : D} {ds : List D} {a b a' b' : Nat} (e1 : f ds.isEmpty d = some (a, b)) (e2 : goL f ds = some (a', b')) : goL f (d :: ds) = some (a + a', b + b') := by
  rw [goL, e1, e2]
/-- what the loop of _law_lines has kept so far -/
structure Kept (ifs : Nat) (x y : Nat) (acc : List D) : Prop where
  gd : ∀ K, 5 + 2 * (3 - ifs) ≤ K → ∀ d ∈ acc, slim K d
  go : ∀ K, 5 + 2 * (3 - ifs) ≤ K → ∀ tail a b, goL (lineC K (linesC K) ifs) tail = some (a, b) → goL (lineC K (linesC K) ifs) (acc ++ tail) = some (x + a, y + b)
theorem Kept.nil {ifs : Nat} : Kept ifs 0 0 [] := ⟨fun _ _ _ h => absurd h List.not_mem_nil, fun K _ tail a b e => by simpa using e⟩
theorem Kept.snoc {ifs x y a b : Nat} {acc : List D} {d : D} (o : Kept ifs x y acc) (h : ∀ K, 5 + 2 * (3 - ifs) ≤ K → slim K d ∧ ∀ last, lineC K (linesC K) ifs last d = some (a, b)) : Kept ifs (x + a) (y + b) (acc ++ [d]) := by
  refine ⟨fun K hK d' hd => ?_, fun K hK tail a' b' e => ?_⟩
  · rcases List.mem_append.mp hd with q | q
    · exact o.gd K hK d' q
    · rw [List.mem_singleton.mp q]
      exact (h K hK).1
  · rw [List.append_assoc, List.singleton_append, o.go K hK (d :: tail) (a + a') (b + b') (goL_put ((h K hK).2 _) e), Nat.add_assoc, Nat.add_assoc]
theorem Kept.fin {ifs x y : Nat} {acc : List D} (o : Kept ifs x y acc) (hl : acc.length ≤ 999) (K : Nat) (hK : 6 + 2 * (3 - ifs) ≤ K) : slim K (.tup acc) ∧ linesC K ifs (.tup acc) = some (x, y) := by
  obtain ⟨k, rfl⟩ : ∃ k, K = k + 1 := ⟨K - 1, by omega⟩
  refine ⟨slim_mk hl (o.gd k (by omega)), ?_⟩
  have := o.go k (by omega) [] 0 0 rfl
  rw [List.append_nil] at this
  exact this
theorem Kept.last {ifs x y : Nat} {acc : List D} {w : Str} (hw : w = "end" ∨ w = "drop") (o : Kept ifs x y acc) (hl : acc.length ≤ 998) (K : Nat) (hK : 6 + 2 * (3 - ifs) ≤ K) : slim K (.tup (acc ++ [.tup [.str w]])) ∧ linesC K ifs (.tup (acc ++ [.tup [.str w]])) = some (x + 1, y) := by
  obtain ⟨k, rfl⟩ : ∃ k, K = k + 1 := ⟨K - 1, by omega⟩
  refine ⟨slim_mk (by rw [List.length_append]; simp only [List.length_singleton]; omega) fun d hd => ?_, ?_⟩
  · rcases List.mem_append.mp hd with q | q
    · exact o.gd k (by omega) d q
    · rw [List.mem_singleton.mp q]
      obtain ⟨j, rfl⟩ : ∃ j, k = j + 1 := ⟨k - 1, by omega⟩
      refine slim_mk (by simp) fun e he => ?_
      rw [List.mem_singleton.mp he]
      exact slim_atom trivial j
  · have e1 : (isS "end" (.str w) || isS "drop" (.str w)) = true := by rcases hw with rfl | rfl <;> decide +kernel
    exact o.go k (by omega) [.tup [.str w]] 1 0 (by simp [goL, lineC, e1])
end K81

set_option linter.all false
set_option Elab.async false
set_option maxRecDepth 100000
set_option maxHeartbeats 4000000
namespace K81
open PySem DC
theorem tup_lst {h : List Cell} {ds : List D} : b1D .tuple h (.lst ds) = some (.tup ds) := rfl
theorem lines_of (ifs : Nat) (il : LineSpec ifs) : LinesSpec ifs := by
  intro h s q names L A most n hsq hs hq hn m1 m2 hm
  obtain ⟨m, rfl⟩ : ∃ m, n = m + 1 := ⟨n - 1, by omega⟩
  refine ok_call (n := m) (F := ⟨5, 7, b14⟩) rfl rfl ?_
  show okCs T (callN T m) b14 [.val (.ref s), .val (.lst names), .val (.ref q), .val (.int ifs), .val (.int most), .no, .no] h _ _
  unfold b14
  refine okCs_step (Γ' := [.val (.ref s), .val (.lst names), .val (.ref q), .val (.int ifs), .val (.int most), .own (.lst []), .no]) (h' := h) (by
    simp only [okCs_nil, okCs_cons, okC_asg, okC_own, okC_stIx, okC_aug, okC_app, okC_ex, okC_ret, okC_retN, okC_ite, okC_for, okE_c, okE_no, okE_v, okE_pk, okE_g, okE_bin, okE_neg, okE_cmp, okE_chain, okE_and, okE_or, okE_not, okE_ite, okE_isi, okE_b1, okE_b2, okE_bm, okE_call, okE_ix, okE_sl, okE_tup, okE_lst, okE_dct, okE_new, okE_lc, okEs_nil, okEs_cons, onVal_val, onOwn_own, onO_some, onO_none, onO_map, onB_bl, onCell_lst, onCell_dct, onInts_int, okO_ok, List.getElem?_cons_zero, List.getElem?_cons_succ, List.set_cons_zero, List.set_cons_succ, isNo, boundC]
    exact ⟨(show (0 : Nat) ≤ 16777216 by decide), trivial, trivial⟩) ?_
  rw [okCs_cons, okC_for]
  simp only [okEs_cons, okEs_nil, okE_call, okE_v, okE_c, List.getElem?_cons_zero, List.getElem?_cons_succ, onVal_val]
  refine (law_nextU hs (size := most) (by omega) (by omega) (by omega)).mono fun r h1 ⟨i, e, i1, i2, V⟩ => ?_
  subst e
  have ei : itemsOf .range1 h1 [.int i] = some ((List.range i.toNat).map fun (j : Nat) => .int (j : Int)) := by
    simp only [itemsOf]
    rw [if_pos (by omega)]
  simp only [ei, onO_some]
  have U1 : Upd2 s q h h1 L A := (Upd2.refl hs hq).of hsq V
  clear V ei
  refine for_inv (fun j Γ h' => ∃ L' A' x y acc s6, Γ = [.val (.ref s), .val (.lst names), .val (.ref q), .val (.int ifs), .val (.int most), .own (.lst acc), s6] ∧ Upd2 s q h h' L' A' ∧ L' + x = L ∧ A' + y = A ∧ acc.length ≤ j ∧ Kept ifs x y acc) (i := 0) ⟨L, A, 0, 0, [], .no, rfl, U1, rfl, rfl, Nat.le_refl _, Kept.nil⟩ ?_ ?_
  · rintro j d Γ h2 ed ⟨L2, A2, x2, y2, acc, s6, rfl, U2, eL, eA, hl, kp⟩
    have hj : j < 17 := by
      have := (List.getElem?_eq_some_iff.mp ed).1
      rw [List.length_map, List.length_range] at this
      omega
    rw [okS_forF]
    simp only [setTg, List.set_cons_succ, List.set_cons_zero, onO_some, okCs_cons, okCs_nil, okC_ite, okE_cmp, okE_ix, okE_v, okE_c, List.getElem?_cons_zero, List.getElem?_cons_succ, onVal_val, rm_lines U2.rm, c_gt, onB_bl]
    match L2, U2, eL with
    | 0, U2, eL =>
      rw [if_neg (by simp)]
      exact ⟨0, A2, x2, y2, acc, _, rfl, U2, eL, eA, by omega, kp⟩
    | L3 + 1, U2, eL =>
      rw [if_pos (by rw [decide_eq_true_eq]; omega)]
      simp only [okC_app, List.getElem?_cons_zero, List.getElem?_cons_succ, onOwn_own, okE_call, okEs_cons, okEs_nil, okE_v, onVal_val]
      refine (il h2 s q names L3 A2 m hsq U2.st U2.rm hn (by omega)).mono fun r h4 ⟨L4, A4, x4, y4, U4, eL4, eA4, g4⟩ => ?_
      refine ⟨(show acc.length < 16777216 by omega), L4, A4, x2 + x4, y2 + y4, acc ++ [r], _, rfl, U2.trans U4, by omega, by omega, ?_, kp.snoc g4⟩
      rw [List.length_append, List.length_singleton]
      omega
  · rintro Γ h2 ⟨L2, A2, x2, y2, acc, s6, rfl, U2, eL, eA, hl, kp⟩
    have hl : acc.length ≤ 17 := by
      rw [List.length_map, List.length_range] at hl
      omega
    by_cases c1 : L2 = 0
    · subst c1
      refine okCs_step (Γ' := [.val (.ref s), .val (.lst names), .val (.ref q), .val (.int ifs), .val (.int most), .own (.lst acc), s6]) (h' := h2) (by
        simp only [okC_ite, okE_and, okE_cmp, okE_ix, okE_v, okE_c, List.getElem?_cons_zero, List.getElem?_cons_succ, onVal_val, rm_lines U2.rm, c_gt, onB_bl, onO_some]
        rw [if_neg (by simp)]
        simp only [onB_bl, Bool.false_eq_true, if_false, okCs_nil]
        exact ⟨trivial, trivial⟩) ?_
      simp only [okCs_cons, okC_ret, okE_b1, okE_pk, List.getElem?_cons_zero, List.getElem?_cons_succ, onOwn_own, Cell.toD, tup_lst, onO_some]
      exact ⟨0, A2, x2, y2, U2, eL, eA, kp.fin (by omega)⟩
    · obtain ⟨L3, rfl⟩ : ∃ L3, L2 = L3 + 1 := ⟨L2 - 1, by omega⟩
      rw [okCs_cons]
      simp only [okC_ite, okE_and, okE_cmp, okE_ix, okE_v, okE_c, List.getElem?_cons_zero, List.getElem?_cons_succ, onVal_val, rm_lines U2.rm, c_gt, onB_bl, onO_some]
      rw [if_pos (by rw [decide_eq_true_eq]; omega)]
      simp only [okE_call, okEs_cons, okEs_nil, okE_v, okE_c, List.getElem?_cons_zero, onVal_val]
      refine (law_nextU U2.st (size := 6) (by decide) (by decide) (by omega)).mono fun r h4 ⟨w, e, w1, w2, V⟩ => ?_
      subst e
      have U4 := U2.of hsq V
      simp only [c_eq, onO_some, onB_bl]
      by_cases c2 : w = 0
      · rw [if_pos (by rw [decide_eq_true_eq]; exact c2)]
        have e1 : ((L3 + 1 : Nat) : Int) - 1 = (L3 : Int) := by omega
        refine okCs_step (Γ' := [.val (.ref s), .val (.lst names), .val (.ref q), .val (.int ifs), .val (.int most), .own (.lst acc), s6]) (h' := h4.set q (rmCell L3 A2)) (by
          simp only [okCs_nil, okCs_cons, okC_asg, okC_own, okC_stIx, okC_aug, okC_app, okC_ex, okC_ret, okC_retN, okC_ite, okC_for, okE_c, okE_no, okE_v, okE_pk, okE_g, okE_bin, okE_neg, okE_cmp, okE_chain, okE_and, okE_or, okE_not, okE_ite, okE_isi, okE_b1, okE_b2, okE_bm, okE_call, okE_ix, okE_sl, okE_tup, okE_lst, okE_dct, okE_new, okE_lc, okEs_nil, okEs_cons, onVal_val, onOwn_own, onO_some, onO_none, onO_map, onB_bl, onCell_lst, onCell_dct, onInts_int, okO_ok, List.getElem?_cons_zero, List.getElem?_cons_succ, List.set_cons_zero, List.set_cons_succ, isNo, boundC, rm_lines U4.rm, b_sub, e1, rm_setL U4.rm]
          exact ⟨trivial, trivial⟩) ?_
        have U5 := U4.set L3 A2 hsq
        generalize h4.set q (rmCell L3 A2) = h5 at U5 ⊢
        simp only [okCs_cons, okCs_nil, okC_app, okE_ix, okE_lst, okE_tup, okE_c, okE_v, okE_call, okEs_cons, okEs_nil, List.getElem?_cons_zero, List.getElem?_cons_succ, onVal_val, onOwn_own]
        refine ⟨(show (1 : Nat) ≤ 16777216 by decide), (show (1 : Nat) ≤ 16777216 by decide), (show (2 : Nat) ≤ 16777216 by decide), ?_⟩
        refine (law_nextU U5.st (size := 2) (by decide) (by decide) (by omega)).mono fun r h6 ⟨z, e, z1, z2, V⟩ => ?_
        subst e
        have U6 := U5.of hsq V
        have hz : z = 0 ∨ z = 1 := by omega
        have fin : ∀ w : Str, (w = "end" ∨ w = "drop") → acc.length < maxLen ∧ okC T (callN T m) (.ret (.b1 .tuple (.pk 5))) (List.set [.val (.ref s), .val (.lst names), .val (.ref q), .val (.int ifs), .val (.int most), .own (.lst acc), s6] 5 (.own (.lst (acc ++ [.tup [.str w]])))) h6 (fun _ h' => ∃ L' A' x y, Upd2 s q h h' L' A' ∧ L' + x = L ∧ A' + y = A ∧ ∀ K, 6 + 2 * (3 - ifs) ≤ K → slim K D.non ∧ linesC K ifs .non = some (x, y)) (fun r h' => ∃ L' A' x y, Upd2 s q h h' L' A' ∧ L' + x = L ∧ A' + y = A ∧ ∀ K, 6 + 2 * (3 - ifs) ≤ K → slim K r ∧ linesC K ifs r = some (x, y)) := fun w hw => by
          refine ⟨(show acc.length < 16777216 by omega), ?_⟩
          simp only [List.set_cons_succ, List.set_cons_zero]
          simp only [okC_ret, okE_b1, okE_pk, List.getElem?_cons_zero, List.getElem?_cons_succ, onOwn_own, Cell.toD, tup_lst, onO_some]
          exact ⟨L3, A2, x2 + 1, y2, U6, by omega, eA, kp.last hw (by omega)⟩
        rcases hz with rfl | rfl
        · simp only [ix_lst, at0, onO_some]
          exact fin "end" (.inl rfl)
        · simp only [ix_lst, at1, onO_some]
          exact fin "drop" (.inr rfl)
      · rw [if_neg (by rw [decide_eq_true_eq]; exact c2)]
        simp only [okCs_nil, okCs_cons, okC_ret, okE_b1, okE_pk, List.getElem?_cons_zero, List.getElem?_cons_succ, onOwn_own, Cell.toD, tup_lst, onO_some]
        exact ⟨L3 + 1, A2, x2, y2, U4, eL, eA, kp.fin (by omega)⟩
theorem lines_all : ∀ j ifs : Nat, ifs + j = 3 → LinesSpec ifs
  | 0, ifs, e => lines_of ifs (line_of ifs (by omega) fun h => absurd h (by omega))
  | j + 1, ifs, e => lines_of ifs (line_of ifs (by omega) fun _ => lines_all j (ifs + 1) (by omega))
/-- a program, and what is not one -/
theorem law_lines0 {h : List Cell} {s q : Nat} {names : List D} {L A : Nat} {n : Nat} (hsq : s ≠ q) (hs : stOk h[s]?) (hq : h[q]? = some (rmCell L A)) (hn : NmOk names) (hm : 14 ≤ n) :
    okO (callN T n 14 [.ref s, .lst names, .ref q, .int 0, .int 17] h) fun r h' => ∃ L' A' x y, Upd2 s q h h' L' A' ∧ L' + x = L ∧ A' + y = A ∧ ∀ K, 12 ≤ K → slim K r ∧ linesC K 0 r = some (x, y) :=
  lines_all 3 0 rfl h s q names L A 17 n hsq hs hq hn (by decide) (by decide) (by omega)
end K81

set_option linter.all false
set_option Elab.async false
set_option maxRecDepth 100000
set_option maxHeartbeats 4000000
namespace K81
open PySem DC
theorem lc_all {f : D → List Cell → Out (Option D)} {P : D → Prop} {h : List Cell} : ∀ {ds : List D}, (∀ d ∈ ds, okO (f d h) fun y h' => (∃ r, y = some r ∧ P r) ∧ h' = h) → okO (lcL f ds h) fun ys h' => h' = h ∧ ys.length = ds.length ∧ ∀ y ∈ ys, P y
  | [], _ => ⟨rfl, rfl, fun _ q => absurd q List.not_mem_nil⟩
  | d :: ds, hf => by
    rw [lcL, okO_bnd]
    refine (hf d List.mem_cons_self).mono fun y h' ⟨⟨r, e, p⟩, e2⟩ => ?_
    subst e e2
    rw [okO_bnd]
    refine (lc_all (f := f) (P := P) (h := h') fun x hx => hf x (List.mem_cons_of_mem _ hx)).mono fun ys h' ⟨e2, l, q⟩ => ?_
    subst e2
    refine ⟨rfl, by simp [l], fun y hy => ?_⟩
    rcases List.mem_cons.mp hy with rfl | hy
    · exact p
    · exact q y hy
abbrev abc : Str := "abcdefghijklmnopqrstuvwxyz"
theorem at_abc : ∀ i : Fin 26, L2.atI abc.cps.toList ((i.val : Nat) : Int) = some (97 + i.val) := by decide +kernel
theorem ix_abc {h : List Cell} {i : Nat} (hi : i < 26) : ixD h (.str abc) (.int (i : Int)) = some (.str ⟨#[97 + i]⟩) := by
  unfold ixD
  simp only [dctOf]
  rw [at_abc ⟨i, hi⟩]
  rfl
def item1 (sh k : Nat) : Option D := mulD [] (.str ⟨#[97 + sh]⟩) (.int (1 + (k : Int)))
def okIt (o : Option D) : Bool := match o with
  | some d => labelB d
  | none => false
theorem item1_ok : ∀ sh : Fin 26, ∀ k : Fin 4, okIt (item1 sh.val k.val) = true := by decide +kernel
def base (sh lg : Nat) : Str := PySem.Txt.join "" ((List.range lg).map fun k => ⟨#[97 + (sh + 7 * k) % 26]⟩)
def item2 (sh lg pl k : Nat) : Option D := (addD [] (.str ⟨(cut (base sh lg).cps.toList none (some (pl : Int))).toArray⟩) (.str ⟨#[97 + (sh + 5 + 3 * k) % 26]⟩)).bind fun x => addD [] x (.str ⟨(cut (base sh lg).cps.toList (some ((pl : Int) + 1)) none).toArray⟩)
theorem item2_ok : ∀ sh : Fin 26, ∀ lg : Fin 5, ∀ pl : Fin lg.val, ∀ k : Fin 5, okIt (item2 sh.val lg.val pl.val k.val) = true := by decide +kernel
theorem okIt_some {o : Option D} (h : okIt o = true) : ∃ d, o = some d ∧ labelB d = true := by
  cases o with
  | none => cases h
  | some d => exact ⟨d, rfl, h⟩
theorem items_r1 {h : List Cell} {n : Nat} (hn : n ≤ 1000) : itemsOf .range1 h [.int (n : Int)] = some ((List.range n).map fun (j : Nat) => .int (j : Int)) := by
  simp only [itemsOf]
  rw [if_pos (by omega)]
  rfl
theorem strs_map {α : Type} {g : α → Str} : ∀ {l : List α}, strsOf (l.map fun x => .str (g x)) = some (l.map g)
  | [] => rfl
  | a :: l => by
    rw [List.map_cons, strsOf, strs_map]
    rfl
theorem sum_ones {α : Type} {g : α → Nat} : ∀ {l : List α}, (∀ x ∈ l, g x = 1) → (l.map g).sum = l.length
  | [], _ => rfl
  | a :: l, h => by
    rw [List.map_cons, List.sum_cons, h a List.mem_cons_self, sum_ones fun x hx => h x (List.mem_cons_of_mem _ hx), List.length_cons, Nat.add_comm]
theorem join_base {h : List Cell} {sh lg : Nat} (hl : lg < 5) : bmD .join h (.str "") (.lst ((List.range lg).map fun k => .str ⟨#[97 + (sh + 7 * k) % 26]⟩)) = some (.str (base sh lg)) := by
  show (strsOf ((List.range lg).map fun k => D.str ⟨#[97 + (sh + 7 * k) % 26]⟩)).bind _ = _
  rw [strs_map (g := fun k => (⟨#[97 + (sh + 7 * k) % 26]⟩ : Str))]
  show (if _ then _ else _) = _
  rw [if_pos]
  · rfl
  · rw [List.map_map, show ((List.range lg).map ((fun (x : Str) => x.length) ∘ fun k => (⟨#[97 + (sh + 7 * k) % 26]⟩ : Str))).sum = (List.range lg).length from sum_ones fun _ _ => rfl]
    simp only [List.length_map, List.length_range]
    show lg + lg * 0 ≤ 16777216
    omega
theorem mem_range {d : D} {n : Nat} (h : d ∈ (List.range n).map fun (j : Nat) => D.int (j : Int)) : ∃ j : Nat, j < n ∧ d = .int j := by
  obtain ⟨j, hj, rfl⟩ := List.mem_map.mp h
  exact ⟨j, List.mem_range.mp hj, rfl⟩
theorem nm_ok {ys : List D} {n : Nat} (h1 : 1 ≤ n) (h5 : n ≤ 5) (hl : ys.length = n) (h : ∀ y ∈ ys, labelB y = true) : NmOk ys := ⟨fun e => by rw [e] at hl; simp only [List.length_nil] at hl; omega, by omega, h⟩
theorem law_keys {h : List Cell} {s : Nat} {size : Int} (hs : stOk h[s]?) (h1 : 1 ≤ size) (h5 : size ≤ 5) {n : Nat} (hn : 2 ≤ n) : okO (callN T n 11 [.ref s, .int size] h) fun r h' => (∃ names, r = .lst names ∧ NmOk names) ∧ Upd s h h' := by
  obtain ⟨m, rfl⟩ : ∃ m, n = m + 1 := ⟨n - 1, by omega⟩
  obtain ⟨sz, rfl⟩ : ∃ sz : Nat, size = sz := ⟨size.toNat, by omega⟩
  refine ok_call (n := m) (F := ⟨2, 8, b11⟩) rfl rfl ?_
  show okCs T (callN T m) b11 [.val (.ref s), .val (.int sz), .no, .no, .no, .no, .no, .no] h _ _
  unfold b11
  refine okCs_step (Γ' := [.val (.ref s), .val (.int sz), .val (.str abc), .no, .no, .no, .no, .no]) (h' := h) (by
    simp only [okCs_nil, okCs_cons, okC_asg, okC_own, okC_stIx, okC_aug, okC_app, okC_ex, okC_ret, okC_retN, okC_ite, okC_for, okE_c, okE_no, okE_v, okE_pk, okE_g, okE_bin, okE_neg, okE_cmp, okE_chain, okE_and, okE_or, okE_not, okE_ite, okE_isi, okE_b1, okE_b2, okE_bm, okE_call, okE_ix, okE_sl, okE_tup, okE_lst, okE_dct, okE_new, okE_lc, okEs_nil, okEs_cons, onVal_val, onOwn_own, onO_some, onO_none, onO_map, onB_bl, onCell_lst, onCell_dct, onInts_int, okO_ok, List.getElem?_cons_zero, List.getElem?_cons_succ, List.set_cons_zero, List.set_cons_succ, isNo, boundC]
    exact ⟨trivial, trivial⟩) ?_
  rw [okCs_cons]
  simp only [okC_asg, okE_call, okEs_cons, okEs_nil, okE_v, okE_c, List.getElem?_cons_zero, onVal_val]
  refine (law_nextU hs (size := 26) (by decide) (by decide) (by omega)).mono fun r h2 ⟨sh, e, w1, w2, U1⟩ => ?_
  subst e
  obtain ⟨sh, rfl⟩ : ∃ n : Nat, sh = n := ⟨sh.toNat, by omega⟩
  have w2 : sh < 26 := by omega
  simp only [List.set_cons_succ, List.set_cons_zero]
  rw [okCs_cons]
  simp only [okC_ite, okE_and, okE_cmp, okE_call, okEs_cons, okEs_nil, okE_v, okE_c, List.getElem?_cons_zero, List.getElem?_cons_succ, onVal_val]
  refine (law_nextU U1.st (size := 4) (by decide) (by decide) (by omega)).mono fun r h3 ⟨b, e, b1, b2, U2⟩ => ?_
  subst e
  have U := U1.trans U2
  clear U1 U2
  simp only [c_eq, c_lt, onO_some, onB_bl]
  have pass : okCs T (callN T m) [.asg 4 (.bin .add (.c (.int 1)) (.call 10 [(.v 0), (.c (.int 4))])),
    .asg 5 (.call 10 [(.v 0), (.v 4)]),
    .asg 6 (.bm .join (.c (.str "")) (.lc .range1 [(.v 4)] (.one 7) [7] (.c (.bl true)) (.ix (.v 2) (.bin .mod (.bin .add (.v 3) (.bin .mul (.c (.int 7)) (.v 7))) (.c (.int 26)))))),
    .ret (.lc .range1 [(.v 1)] (.one 7) [7] (.c (.bl true)) (.bin .add (.bin .add (.sl (.v 6) .no (.v 5)) (.ix (.v 2) (.bin .mod (.bin .add (.bin .add (.v 3) (.c (.int 5))) (.bin .mul (.c (.int 3)) (.v 7))) (.c (.int 26))))) (.sl (.v 6) (.bin .add (.v 5) (.c (.int 1))) .no)))] [.val (.ref s), .val (.int sz), .val (.str abc), .val (.int sh), .no, .no, .no, .no] h3 (fun _ h' => (∃ names, D.non = .lst names ∧ NmOk names) ∧ Upd s h h') (fun r h' => (∃ names, r = .lst names ∧ NmOk names) ∧ Upd s h h') := by
    rw [okCs_cons]
    simp only [okC_asg, okE_bin, okE_call, okEs_cons, okEs_nil, okE_v, okE_c, List.getElem?_cons_zero, List.getElem?_cons_succ, onVal_val]
    refine (law_nextU U.st (size := 4) (by decide) (by decide) (by omega)).mono fun r h4 ⟨lg, e, l1, l2, U2⟩ => ?_
    subst e
    have U4 := U.trans U2
    obtain ⟨lg, hlg, hl0, hl5⟩ : ∃ n : Nat, 1 + lg = n ∧ 0 < n ∧ n < 5 := ⟨(1 + lg).toNat, by omega, by omega, by omega⟩
    simp only [b_add, onO_some, hlg, List.set_cons_succ, List.set_cons_zero]
    clear hlg l1 l2 U2
    rw [okCs_cons]
    simp only [okC_asg, okE_call, okEs_cons, okEs_nil, okE_v, okE_c, List.getElem?_cons_zero, List.getElem?_cons_succ, onVal_val]
    refine (law_nextU U4.st (size := lg) (by omega) (by omega) (by omega)).mono fun r h5 ⟨pl, e, p1, p2, U5⟩ => ?_
    subst e
    have U6 := U4.trans U5
    obtain ⟨pl, rfl⟩ : ∃ n : Nat, pl = n := ⟨pl.toNat, by omega⟩
    have p2 : pl < lg := by omega
    simp only [List.set_cons_succ, List.set_cons_zero]
    have f7 : ∀ x : Int, (intFits 7 || intFits x) = true := fun x => by rw [show intFits 7 = true by decide]; rfl
    have f3 : ∀ x : Int, (intFits 3 || intFits x) = true := fun x => by rw [show intFits 3 = true by decide]; rfl
    refine okCs_step (Γ' := [.val (.ref s), .val (.int sz), .val (.str abc), .val (.int sh), .val (.int lg), .val (.int pl), .val (.str (base sh lg)), .no]) (h' := h5) ?_ ?_
    · have e : lcL (lcF1 T (callN T m) (.one 7) [7] (.c (.bl true)) (.ix (.v 2) (.bin .mod (.bin .add (.v 3) (.bin .mul (.c (.int 7)) (.v 7))) (.c (.int 26)))) [.val (.ref s), .val (.int sz), .val (.str abc), .val (.int sh), .val (.int lg), .val (.int pl), .no, .no]) ((List.range lg).map fun (j : Nat) => .int (j : Int)) h5 = some (.ok (((List.range lg).map fun (j : Nat) => D.int (j : Int)).map fun d => match d with | .int i => .str ⟨#[97 + (sh + 7 * i.toNat) % 26]⟩ | _ => .non) h5) :=
        lc_pure fun d hd => by
          obtain ⟨j, hj, rfl⟩ := mem_range hd
          have e1 : ((sh : Int) + 7 * (j : Int)) % 26 = ((((sh + 7 * j) % 26 : Nat)) : Int) := by omega
          rw [okO_lcF1]
          simp (decide := true) only [okCs_nil, okCs_cons, okC_asg, okC_own, okC_stIx, okC_aug, okC_app, okC_ex, okC_ret, okC_retN, okC_ite, okC_for, okE_c, okE_no, okE_v, okE_pk, okE_g, okE_bin, okE_neg, okE_cmp, okE_chain, okE_and, okE_or, okE_not, okE_ite, okE_isi, okE_b1, okE_b2, okE_bm, okE_call, okE_ix, okE_sl, okE_tup, okE_lst, okE_dct, okE_new, okE_lc, okEs_nil, okEs_cons, onVal_val, onOwn_own, onO_some, onO_none, onO_map, onB_bl, onCell_lst, onCell_dct, onInts_int, okO_ok, List.getElem?_cons_zero, List.getElem?_cons_succ, List.set_cons_zero, List.set_cons_succ, isNo, boundC, setTg, wipeS, b_mul (f7 _), b_add, b_mod (show (0 : Int) < 26 by decide), e1, ix_abc (Nat.mod_lt (sh + 7 * j) (show 0 < 26 by decide)), if_true]
          exact ⟨rfl, trivial⟩
      rw [List.map_map] at e
      have e2 : ((fun (d : D) => match d with | .int i => D.str ⟨#[97 + (sh + 7 * i.toNat) % 26]⟩ | _ => .non) ∘ fun (j : Nat) => D.int (j : Int)) = fun (k : Nat) => D.str ⟨#[97 + (sh + 7 * k) % 26]⟩ := rfl
      rw [e2] at e
      simp (decide := true) only [okCs_nil, okCs_cons, okC_asg, okC_own, okC_stIx, okC_aug, okC_app, okC_ex, okC_ret, okC_retN, okC_ite, okC_for, okE_c, okE_no, okE_v, okE_pk, okE_g, okE_bin, okE_neg, okE_cmp, okE_chain, okE_and, okE_or, okE_not, okE_ite, okE_isi, okE_b1, okE_b2, okE_bm, okE_call, okE_ix, okE_sl, okE_tup, okE_lst, okE_dct, okE_new, okE_lc, okEs_nil, okEs_cons, onVal_val, onOwn_own, onO_some, onO_none, onO_map, onB_bl, onCell_lst, onCell_dct, onInts_int, okO_ok, List.getElem?_cons_zero, List.getElem?_cons_succ, List.set_cons_zero, List.set_cons_succ, isNo, boundC, items_r1 (show lg ≤ 1000 by omega), e, join_base hl5]
      refine ⟨rfl, ?_, trivial⟩
      rw [List.length_map, List.length_range]
      show lg ≤ 16777216
      omega
    · simp only [okCs_cons, okC_ret, okE_lc, okEs_cons, okEs_nil, okE_v, List.getElem?_cons_zero, List.getElem?_cons_succ, onVal_val, items_r1 (show sz ≤ 1000 by omega), onO_some]
      refine ⟨rfl, ?_⟩
      refine (lc_all (P := fun d => labelB d = true) fun d hd => ?_).mono fun ys h' ⟨e, l, q⟩ => ?_
      · obtain ⟨j, hj, rfl⟩ := mem_range hd
        have e1 : ((sh : Int) + 5 + 3 * (j : Int)) % 26 = ((((sh + 5 + 3 * j) % 26 : Nat)) : Int) := by omega
        obtain ⟨r, er, lr⟩ := okIt_some (item2_ok ⟨sh, w2⟩ ⟨lg, hl5⟩ ⟨pl, p2⟩ ⟨j, by omega⟩)
        unfold item2 at er
        rw [okO_lcF1]
        simp (decide := true) only [okCs_nil, okCs_cons, okC_asg, okC_own, okC_stIx, okC_aug, okC_app, okC_ex, okC_ret, okC_retN, okC_ite, okC_for, okE_c, okE_no, okE_v, okE_pk, okE_g, okE_bin, okE_neg, okE_cmp, okE_chain, okE_and, okE_or, okE_not, okE_ite, okE_isi, okE_b1, okE_b2, okE_bm, okE_call, okE_ix, okE_sl, okE_tup, okE_lst, okE_dct, okE_new, okE_lc, okEs_nil, okEs_cons, onVal_val, onOwn_own, onO_some, onO_none, onO_map, onB_bl, onCell_lst, onCell_dct, onInts_int, okO_ok, List.getElem?_cons_zero, List.getElem?_cons_succ, List.set_cons_zero, List.set_cons_succ, isNo, boundC, setTg, wipeS, b_mul (f3 _), b_add, b_mod (show (0 : Int) < 26 by decide), e1, ix_abc (Nat.mod_lt (sh + 5 + 3 * j) (show 0 < 26 by decide)), if_true, slI]
        obtain ⟨x, ex, ey⟩ := Option.bind_eq_some_iff.mp er
        have ex : binD .add h5 (.str ⟨(cut (base sh lg).cps.toList none (some (pl : Int))).toArray⟩) (.str ⟨#[97 + (sh + 5 + 3 * j) % 26]⟩) = some x := ex
        have hx : ∃ z, x = .str z := by
          have ex : strCat _ _ = some x := ex
          unfold strCat at ex
          split at ex
          · cases ex
            exact ⟨_, rfl⟩
          · cases ex
        obtain ⟨z, rfl⟩ := hx
        have ey : binD .add h5 (.str z) (.str ⟨(cut (base sh lg).cps.toList (some ((pl : Int) + 1)) none).toArray⟩) = some r := ey
        simp only [ex, ey, onO_some]
        exact ⟨⟨r, rfl, lr⟩, trivial⟩
      · subst e
        rw [List.length_map, List.length_range] at l
        exact ⟨by rw [l]; show sz ≤ 16777216; omega, ⟨ys, rfl, nm_ok (by omega) (by omega) l q⟩, U6⟩
  by_cases c1 : b = 0
  · rw [if_pos (by rw [decide_eq_true_eq]; exact c1)]
    by_cases c2 : (sz : Int) < 5
    · rw [if_pos (by rw [decide_eq_true_eq]; exact c2)]
      simp only [okCs_cons, okC_ret, okE_lc, okEs_cons, okEs_nil, okE_v, List.getElem?_cons_zero, List.getElem?_cons_succ, onVal_val, items_r1 (show sz ≤ 1000 by omega), onO_some]
      refine ⟨rfl, ?_⟩
      refine (lc_all (P := fun d => labelB d = true) fun d hd => ?_).mono fun ys h' ⟨e, l, q⟩ => ?_
      · obtain ⟨j, hj, rfl⟩ := mem_range hd
        obtain ⟨r, er, lr⟩ := okIt_some (item1_ok ⟨sh, w2⟩ ⟨j, by omega⟩)
        have er : binD .mul h3 (.str ⟨#[97 + sh]⟩) (.int (1 + (j : Int))) = some r := er
        rw [okO_lcF1]
        simp (decide := true) only [okCs_nil, okCs_cons, okC_asg, okC_own, okC_stIx, okC_aug, okC_app, okC_ex, okC_ret, okC_retN, okC_ite, okC_for, okE_c, okE_no, okE_v, okE_pk, okE_g, okE_bin, okE_neg, okE_cmp, okE_chain, okE_and, okE_or, okE_not, okE_ite, okE_isi, okE_b1, okE_b2, okE_bm, okE_call, okE_ix, okE_sl, okE_tup, okE_lst, okE_dct, okE_new, okE_lc, okEs_nil, okEs_cons, onVal_val, onOwn_own, onO_some, onO_none, onO_map, onB_bl, onCell_lst, onCell_dct, onInts_int, okO_ok, List.getElem?_cons_zero, List.getElem?_cons_succ, List.set_cons_zero, List.set_cons_succ, isNo, boundC, setTg, wipeS, b_add, ix_abc w2, er, if_true]
        exact ⟨⟨r, rfl, lr⟩, trivial⟩
      · subst e
        rw [List.length_map, List.length_range] at l
        exact ⟨by rw [l]; show sz ≤ 16777216; omega, ⟨ys, rfl, nm_ok (by omega) (by omega) l q⟩, U⟩
    · rw [if_neg (by rw [decide_eq_true_eq]; exact c2)]
      rw [okCs_nil]
      exact pass
  · rw [if_neg (by rw [decide_eq_true_eq]; exact c1)]
    rw [if_neg (by decide), okCs_nil]
    exact pass
theorem progB_of {K : Nat} {d : D} {x y : Nat} (e : linesC K 0 d = some (x, y)) (h1 : 1 ≤ x) (h2 : x ≤ 16) (h3 : y ≤ 8) : progB K d = true := by
  unfold progB
  rw [e]
  simp [h1, h2, h3]
theorem linesC_tup {K : Nat} {d : D} {x y : Nat} (e : linesC (K + 1) 0 d = some (x, y)) : ∃ ds, d = .tup ds ∧ (ds ≠ [] → 1 ≤ x) := by
  cases d <;> first | (cases e; done) | skip
  rename_i ds
  refine ⟨ds, rfl, fun hne => ?_⟩
  cases ds with
  | nil => exact absurd rfl hne
  | cons d ds =>
    obtain ⟨a, b, a', b', e1, e2, rfl, rfl⟩ := goL_cons (show goL (lineC K (linesC K) 0) (d :: ds) = some (x, y) from e)
    rcases line_cases e1 with ⟨_, _, ea, _⟩ | ⟨q, r, ed, _, _, ea, _⟩ | ⟨q, r, ed, _, _, ea, _⟩ | ⟨q, r, ed, _, _, ea, _⟩ | ⟨q, r, t, x, y, x', y', ed, _, _, s1, s2, ea, _⟩ <;> omega
theorem law_program {h : List Cell} {s : Nat} {names : List D} (hs : stOk h[s]?) (hn : NmOk names) {n : Nat} (hm : 15 ≤ n) :
    okO (callN T n 15 [.ref s, .lst names] h) fun r h' => (∃ ds, r = .tup ds) ∧ (∀ K, 12 ≤ K → slim K r ∧ progB K r = true) ∧ stOk h'[s]? := by
  obtain ⟨m, rfl⟩ : ∃ m, n = m + 1 := ⟨n - 1, by omega⟩
  refine ok_call (n := m) (F := ⟨2, 4, b15⟩) rfl rfl ?_
  show okCs T (callN T m) b15 [.val (.ref s), .val (.lst names), .no, .no] h _ _
  unfold b15
  refine okCs_step (Γ' := [.val (.ref s), .val (.lst names), .val (.ref h.length), .no]) (h' := h ++ [rmCell 16 8]) (by
    simp only [okCs_nil, okCs_cons, okC_asg, okC_own, okC_stIx, okC_aug, okC_app, okC_ex, okC_ret, okC_retN, okC_ite, okC_for, okE_c, okE_no, okE_v, okE_pk, okE_g, okE_bin, okE_neg, okE_cmp, okE_chain, okE_and, okE_or, okE_not, okE_ite, okE_isi, okE_b1, okE_b2, okE_bm, okE_call, okE_ix, okE_sl, okE_tup, okE_lst, okE_dct, okE_new, okE_lc, okEs_nil, okEs_cons, onVal_val, onOwn_own, onO_some, onO_none, onO_map, onB_bl, onCell_lst, onCell_dct, onInts_int, okO_ok, List.getElem?_cons_zero, List.getElem?_cons_succ, List.set_cons_zero, List.set_cons_succ, isNo, boundC, newCell]
    exact ⟨trivial, rfl⟩) ?_
  have hlt : s < h.length := by
    obtain ⟨a, b, d, e⟩ := hs
    exact (List.getElem?_eq_some_iff.mp e).1
  have hs1 : stOk (h ++ [rmCell 16 8])[s]? := by
    rw [List.getElem?_append_left hlt]
    exact hs
  have hq1 : (h ++ [rmCell 16 8])[h.length]? = some (rmCell 16 8) := by simp
  generalize h ++ [rmCell 16 8] = h1 at hs1 hq1 ⊢
  rw [okCs_cons]
  simp only [okC_asg, okE_call, okEs_cons, okEs_nil, okE_v, okE_c, List.getElem?_cons_zero, List.getElem?_cons_succ, onVal_val]
  refine (law_lines0 (show s ≠ h.length by omega) hs1 hq1 hn (show 14 ≤ m by omega)).mono fun r h2 ⟨L, A, x, y, U, eL, eA, g⟩ => ?_
  simp only [List.set_cons_succ, List.set_cons_zero]
  obtain ⟨ds, rfl, hx⟩ := linesC_tup (K := 11) (g 12 (Nat.le_refl _)).2
  rw [okCs_cons]
  simp only [okC_ite, okE_cmp, okE_v, okE_tup, okEs_nil, List.getElem?_cons_zero, List.getElem?_cons_succ, onVal_val, eq_tnil, onO_some, onB_bl]
  refine ⟨(show (0 : Nat) ≤ 16777216 by decide), ?_⟩
  cases ds with
  | nil =>
    rw [if_pos (show ([] : List D).isEmpty = true from rfl)]
    obtain ⟨nm, nms, en⟩ : ∃ nm nms, names = nm :: nms := by
      have := hn.ne
      cases names with
      | nil => exact absurd rfl this
      | cons a b => exact ⟨a, b, rfl⟩
    have ln := hn.lab nm (by rw [en]; exact List.mem_cons_self)
    subst en
    simp only [okCs_cons, okC_ret, okE_tup, okEs_cons, okEs_nil, okE_c, okE_ix, okE_v, List.getElem?_cons_zero, List.getElem?_cons_succ, onVal_val, ix_lst, at0, onO_some]
    refine ⟨(show (2 : Nat) ≤ 16777216 by decide), (show (3 : Nat) ≤ 16777216 by decide), (show (1 : Nat) ≤ 16777216 by decide), ⟨_, rfl⟩, fun K hK => ?_, U.st⟩
    obtain ⟨k, rfl⟩ : ∃ k, K = k + 4 := ⟨K - 4, by omega⟩
    have s1 : ∀ k, slim (k + 1) (.tup [.str "number", .int 1]) := fun k => slim_mk (by simp) fun d hd => by
      simp only [List.mem_cons, List.not_mem_nil, or_false] at hd
      rcases hd with rfl | rfl <;> exact slim_atom trivial k
    refine ⟨slim_mk (by simp) fun d hd => ?_, ?_⟩
    · rw [List.mem_singleton.mp hd]
      exact slim3 (slim_atom trivial _) (slim_lab ln _) (s1 (k + 1))
    · have e1 : sumOk (k + 3) (.tup [.str "number", .int 1]) = true := by
        have : (isS "number" (.str "number") && valueB (.int 1) || isS "box" (.str "number") && labelB (.int 1)) = true := by decide +kernel
        simp [sumOk, sumD, this]
      refine progB_of (x := 1) (y := 1) ?_ (by decide) (by decide) (by decide)
      show goL (lineC (k + 3) (linesC (k + 3)) 0) [_] = _
      simp only [goL, lineC_put ln e1]
  | cons d ds =>
    rw [if_neg (by simp)]
    simp only [okCs_cons, okCs_nil, okC_ret, okE_v, List.getElem?_cons_zero, List.getElem?_cons_succ, onVal_val]
    exact ⟨⟨_, rfl⟩, fun K hK => ⟨(g K hK).1, progB_of (g K hK).2 (hx (by simp)) (by omega) (by omega)⟩, U.st⟩
end K81

set_option linter.all false
set_option Elab.async false
set_option maxRecDepth 100000
set_option maxHeartbeats 4000000
namespace K81
open PySem DC
def goodB : Nat → D → Bool
  | k, .tup ds => match k with
    | 0 => false
    | k + 1 => decide (ds.length ≤ 1000) && ds.all (goodB k)
  | k, .lst ds => match k with
    | 0 => false
    | k + 1 => decide (ds.length ≤ 1000) && ds.all (goodB k)
  | _, .ref _ => false
  | _, .scr _ => false
  | _, _ => true
theorem goodB_good : ∀ {k : Nat} {d : D}, goodB k d = true → good k d
  | 0, d, h => by
    cases d <;> first | (unfold K81.good; trivial) | (unfold goodB at h; cases h)
  | k + 1, d, h => by
    cases d <;> first | (unfold K81.good; trivial) | (unfold goodB at h; cases h; done) | skip
    all_goals
      unfold goodB at h
      unfold K81.good
      simp only [Bool.and_eq_true, decide_eq_true_eq, List.all_eq_true] at h
      exact ⟨h.1, fun d hd => goodB_good (h.2 d hd)⟩
def things : List D := [.non, .bl true, .int 0, .int 5, .int (-1), .int 1000, .int 999, .str "", .str "x", .str "abcd", .str "abcde", .str "A", .str "x1", .str "get", .str "put", .str "let", .str "if", .str "else",
  .str "fi", .str "end", .str "drop", .str "+", .str "-", .str "/", .tup [], .lst [], .dct [] [], .tup [.str "end"], .tup [.str "drop"], .lst [.str "end"], .tup [.str "end", .int 1],
  .tup [.str "number", .int 5], .tup [.str "number", .int 1000], .tup [.str "number", .bl true], .tup [.str "box", .str "x"], .tup [.str "box", .str "if"], .tup [.str "number"],
  .tup [.str "+", .tup [.str "number", .int 1]], .tup [.str "get", .str "x", .str "k"], .tup [.str "*", .tup [.str "number", .int 1], .tup [.str "box", .str "x"]],
  .tup [.str "if", .tup [.str "number", .int 1], .tup [], .tup []], .tup [.str "if", .tup [.str "number", .int 1], .lst [], .tup []], .tup [.str "let", .str "x", .tup [.str "number", .int 1]],
  .tup [.str "get", .str "x"], .tup [.str "put", .str "k", .tup [.str "number", .int 0], .int 1], .tup [.tup [.str "end"]], .tup [.tup [.str "let", .str "x"]]]
theorem things_good : ∀ d ∈ things, good 4 d := by
  have : things.all (goodB 4) = true := by decide +kernel
  intro d hd
  exact goodB_good (List.all_eq_true.mp this d hd)
theorem law_things {n : Nat} (hn : 1 ≤ n) (h : List Cell) : callN T n 21 [] h = some (.ok (.lst things) h) := by
  obtain ⟨m, rfl⟩ : ∃ m, n = m + 1 := ⟨n - 1, by omega⟩
  exact rfl
theorem good_up {k K : Nat} (h : k ≤ K) {d : D} (g : good k d) : good K d := by
  induction h with
  | refl => exact g
  | step _ ih => exact good_mono ih
theorem slim_tup {k : Nat} {ds : List D} (h : slim (k + 1) (.tup ds)) : ds.length ≤ 999 ∧ ∀ d ∈ ds, slim k d := by
  unfold slim at h
  exact h
theorem cut_take {α : Type} {ds : List α} {i : Nat} : cut ds none (some (i : Int)) = ds.take i := by
  unfold cut
  rw [HT.sIx_nat, HT.sIx_none, List.drop_zero, Nat.sub_zero]
  rw [Nat.min_def]
  split
  · rfl
  · rw [List.take_of_length_le (Nat.le_refl _), List.take_of_length_le (by omega)]
theorem cut_drop {α : Type} {ds : List α} {i : Nat} : cut ds (some (i : Int)) none = ds.drop i := by
  unfold cut
  rw [HT.sIx_nat, HT.sIx_none]
  rw [List.take_of_length_le (by rw [List.length_drop]; omega)]
  rw [Nat.min_def]
  split
  · rfl
  · rw [List.drop_of_length_le (Nat.le_refl _), List.drop_of_length_le (by omega)]
theorem b_addT {h : List Cell} {as bs : List D} (hz : as.length + bs.length ≤ 1000) : binD .add h (.tup as) (.tup bs) = some (.tup (as ++ bs)) := by
  show (if _ then _ else _) = _
  rw [if_pos (show as.length + bs.length ≤ 16777216 by omega)]
theorem good_app {k : Nat} {as bs cs : List D} (hz : as.length + bs.length + cs.length ≤ 1000) (ha : ∀ d ∈ as, good k d) (hb : ∀ d ∈ bs, good k d) (hc : ∀ d ∈ cs, good k d) : good (k + 1) (.tup (as ++ bs ++ cs)) := good_mk (by simp only [List.length_append]; omega) fun d hd => by
  rcases List.mem_append.mp hd with hd | hd
  · rcases List.mem_append.mp hd with hd | hd
    · exact ha d hd
    · exact hb d hd
  · exact hc d hd
theorem law_bent : ∀ (left K : Nat) {d : D} {h : List Cell} {s : Nat}, left + 4 ≤ K → slim K d → stOk h[s]? → ∀ {n : Nat}, left + 2 ≤ n → okO (callN T n 22 [.ref s, d, .int left] h) fun r h' => good K r ∧ Upd s h h' := by
  intro left
  induction left with
  | zero =>
    intro K d h s hK hd hs n hn
    obtain ⟨m, rfl⟩ : ∃ m, n = m + 1 := ⟨n - 1, by omega⟩
    refine ok_call (n := m) (F := ⟨3, 6, b22⟩) rfl rfl ?_
    show okCs T (callN T m) b22 [.val (.ref s), .val d, .val (.int 0), .no, .no, .no] h _ _
    unfold b22
    rw [okCs_cons]
    simp only [okC_ite, okE_or, okE_cmp, okE_v, okE_c, List.getElem?_cons_zero, List.getElem?_cons_succ, onVal_val, c_eq, onO_some, onB_bl]
    rw [if_pos (by decide)]
    simp only [onB_bl, if_true, okCs_cons, okCs_nil, okC_asg, okC_ret, okE_ix, okE_b1, okE_v, okE_call, okEs_cons, okEs_nil, law_things (show 1 ≤ m by omega), okO_ok, List.set_cons_succ, List.set_cons_zero, List.getElem?_cons_zero, List.getElem?_cons_succ, onVal_val, l_lst, onO_some]
    refine (law_nextU hs (size := (things.length : Nat)) (by decide) (by decide) (by omega)).mono fun r h2 ⟨i, e, i1, i2, U2⟩ => ?_
    subst e
    obtain ⟨j, _, hj, e⟩ := at_some (ds := things) i1 i2
    simp only [ix_lst, e, onO_some]
    exact ⟨good_up (by omega) (things_good _ (List.getElem_mem hj)), U2⟩
  | succ left ih =>
    intro K d h s hK hd hs n hn
    obtain ⟨m, rfl⟩ : ∃ m, n = m + 1 := ⟨n - 1, by omega⟩
    refine ok_call (n := m) (F := ⟨3, 6, b22⟩) rfl rfl ?_
    show okCs T (callN T m) b22 [.val (.ref s), .val d, .val (.int ((left + 1 : Nat) : Int)), .no, .no, .no] h _ _
    unfold b22
    have out : okCs T (callN T m) [.asg 5 (.call 21 []), .ret (.ix (.v 5) (.call 10 [(.v 0), (.b1 .len (.v 5))]))] [.val (.ref s), .val d, .val (.int ((left + 1 : Nat) : Int)), .no, .no, .no] h (fun _ _ => False) fun r h' => good K r ∧ Upd s h h' := by
      simp only [okCs_cons, okCs_nil, okC_asg, okC_ret, okE_ix, okE_b1, okE_v, okE_call, okEs_cons, okEs_nil, law_things (show 1 ≤ m by omega), okO_ok, List.set_cons_succ, List.set_cons_zero, List.getElem?_cons_zero, List.getElem?_cons_succ, onVal_val, l_lst, onO_some]
      refine (law_nextU hs (size := (things.length : Nat)) (by decide) (by decide) (by omega)).mono fun r h2 ⟨i, e, i1, i2, U2⟩ => ?_
      subst e
      obtain ⟨j, _, hj, e⟩ := at_some (ds := things) i1 i2
      simp only [ix_lst, e, onO_some]
      exact ⟨good_up (by omega) (things_good _ (List.getElem_mem hj)), U2⟩
    have n0 : ¬ ((left + 1 : Nat) : Int) = 0 := by omega
    by_cases ht : ∃ d1 ds, d = .tup (d1 :: ds)
    · obtain ⟨d1, dr, rfl⟩ := ht
      generalize hds : d1 :: dr = ds at *
      have hne : 0 < ds.length := by rw [← hds]; simp
      have he : ds.isEmpty = false := by rw [← hds]; rfl
      refine okCs_step (Γ' := [.val (.ref s), .val (.tup ds), .val (.int ((left + 1 : Nat) : Int)), .no, .no, .no]) (h' := h) (by
        simp only [okC_ite, okE_or, okE_not, okE_cmp, okE_isi, isiD, okE_tup, okEs_nil, okE_v, okE_c, List.getElem?_cons_zero, List.getElem?_cons_succ, onVal_val, c_eq, onO_some, onB_bl]
        rw [if_neg (by rw [decide_eq_true_eq]; exact n0), if_neg (by decide)]
        refine ⟨(show (0 : Nat) ≤ 16777216 by decide), ?_⟩
        simp only [eq_tnil, he, onO_some, onB_bl, Bool.false_eq_true, if_false, okCs_nil]
        exact ⟨trivial, trivial⟩) ?_
      rw [okCs_cons]
      simp only [okC_asg, okE_call, okE_b1, okEs_cons, okEs_nil, okE_v, okE_c, List.getElem?_cons_zero, List.getElem?_cons_succ, onVal_val, l_tup, onO_some]
      obtain ⟨k, rfl⟩ : ∃ k, K = k + 1 := ⟨K - 1, by omega⟩
      obtain ⟨hz, hg⟩ := slim_tup hd
      refine (law_nextU hs (size := (ds.length : Nat)) (by omega) (by omega) (by omega)).mono fun r h2 ⟨i, e, i1, i2, U2⟩ => ?_
      subst e
      obtain ⟨j, ej, hj, ea⟩ := at_some (ds := ds) i1 i2
      subst ej
      simp only [List.set_cons_succ, List.set_cons_zero]
      rw [okCs_cons]
      simp only [okC_asg, okE_call, okEs_cons, okEs_nil, okE_v, okE_c, List.getElem?_cons_zero, List.getElem?_cons_succ, onVal_val]
      refine (law_nextU U2.st (size := 6) (by decide) (by decide) (by omega)).mono fun r h3 ⟨w, e, w1, w2, U3⟩ => ?_
      subst e
      have U := U2.trans U3
      clear U2 U3
      simp only [List.set_cons_succ, List.set_cons_zero]
      have ej1 : (j : Int) + 1 = ((j + 1 : Nat) : Int) := by omega
      have l1 : (ds.take j).length = j := by rw [List.length_take]; omega
      have l2 : (ds.drop (j + 1)).length = ds.length - (j + 1) := by rw [List.length_drop]
      have l3 : (ds.drop j).length = ds.length - j := by rw [List.length_drop]
      have gt : ∀ d ∈ ds.take j, good k d := fun d hd => (hg d (List.mem_of_mem_take hd)).good
      have gd : ∀ i, ∀ d ∈ ds.drop i, good k d := fun i d hd => (hg d (List.mem_of_mem_drop hd)).good
      have gj := hg ds[j] (List.getElem_mem hj)
      by_cases c1 : w = 0
      · refine okCs_out ?_
        simp only [okC_ite, okE_cmp, okE_v, okE_c, List.getElem?_cons_zero, List.getElem?_cons_succ, onVal_val, c_eq, c1, decide_true, onO_some, onB_bl, if_true]
        simp only [okCs_cons, okC_ret, okE_bin, okE_sl, okE_v, okE_c, okE_no, isNo, boundC, List.getElem?_cons_zero, List.getElem?_cons_succ, onVal_val, onO_some, b_add, slI, ej1, cut_take, cut_drop]
        rw [b_addT (by omega), onO_some]
        have := good_app (k := k) (as := ds.take j) (bs := []) (cs := ds.drop (j + 1)) (by simp only [List.length_nil]; omega) gt (fun _ q => absurd q List.not_mem_nil) (gd _)
        rw [List.append_nil] at this
        exact ⟨this, U⟩
      · refine okCs_step (Γ' := [.val (.ref s), .val (.tup ds), .val (.int ((left + 1 : Nat) : Int)), .val (.int j), .val (.int w), .no]) (h' := h3) (by
          simp only [okC_ite, okE_cmp, okE_v, okE_c, List.getElem?_cons_zero, List.getElem?_cons_succ, onVal_val, c_eq, c1, decide_false, onO_some, onB_bl, Bool.false_eq_true, if_false, okCs_nil]
          exact ⟨trivial, trivial⟩) ?_
        by_cases c2 : w = 1
        · refine okCs_out ?_
          simp only [okC_ite, okE_cmp, okE_v, okE_c, List.getElem?_cons_zero, List.getElem?_cons_succ, onVal_val, c_eq, c2, decide_true, onO_some, onB_bl, if_true]
          simp only [okCs_cons, okC_ret, okE_bin, okE_sl, okE_v, okE_c, okE_no, okE_tup, okE_ix, okEs_cons, okEs_nil, isNo, boundC, List.getElem?_cons_zero, List.getElem?_cons_succ, onVal_val, onO_some, b_add, slI, ix_tup, ea, cut_take, cut_drop]
          refine ⟨(show (1 : Nat) ≤ 16777216 by decide), ?_⟩
          rw [b_addT (by rw [l1]; simp only [List.length_singleton]; omega), onO_some, b_addT (by simp only [List.length_append, List.length_singleton]; omega), onO_some]
          refine ⟨good_app (by simp only [List.length_singleton]; omega) gt (fun d hd => ?_) (gd _), U⟩
          rw [List.mem_singleton.mp hd]
          exact gj.good
        · refine okCs_step (Γ' := [.val (.ref s), .val (.tup ds), .val (.int ((left + 1 : Nat) : Int)), .val (.int j), .val (.int w), .no]) (h' := h3) (by
            simp only [okC_ite, okE_cmp, okE_v, okE_c, List.getElem?_cons_zero, List.getElem?_cons_succ, onVal_val, c_eq, c2, decide_false, onO_some, onB_bl, Bool.false_eq_true, if_false, okCs_nil]
            exact ⟨trivial, trivial⟩) ?_
          have el : ((left + 1 : Nat) : Int) - 1 = (left : Int) := by omega
          simp only [okCs_cons, okC_ret, okE_bin, okE_sl, okE_v, okE_c, okE_no, okE_tup, okE_ix, okE_call, okEs_cons, okEs_nil, isNo, boundC, List.getElem?_cons_zero, List.getElem?_cons_succ, onVal_val, onO_some, b_sub, el, slI, ix_tup, ea, cut_take]
          refine (ih k (by omega) gj U.st (by omega)).mono fun r h4 ⟨gr, U4⟩ => ?_
          refine ⟨(show (1 : Nat) ≤ 16777216 by decide), ?_⟩
          rw [b_addT (by rw [l1]; simp only [List.length_singleton]; omega), onO_some]
          simp only [b_add, ej1, onO_some, cut_drop]
          rw [b_addT (by simp only [List.length_append, List.length_singleton]; omega), onO_some]
          refine ⟨good_app (by simp only [List.length_singleton]; omega) gt (fun d hd => ?_) (gd _), U.trans U4⟩
          rw [List.mem_singleton.mp hd]
          exact gr
    · refine okCs_out ?_
      simp only [okC_ite, okE_or, okE_not, okE_cmp, okE_isi, isi_tup hd.good, okE_tup, okEs_nil, okE_v, okE_c, List.getElem?_cons_zero, List.getElem?_cons_succ, onVal_val, c_eq, onO_some, onB_bl]
      rw [if_neg (by rw [decide_eq_true_eq]; exact n0)]
      cases d with
      | tup ds =>
        cases ds with
        | cons a b => exact absurd ⟨_, _, rfl⟩ ht
        | nil =>
          simp only [Bool.not_true, Bool.false_eq_true, if_false]
          refine ⟨(show (0 : Nat) ≤ 16777216 by decide), ?_⟩
          simp only [eq_tnil, List.isEmpty_nil, onO_some, onB_bl, if_true]
          exact out
      | _ =>
        simp only [Bool.not_false, if_true, onB_bl]
        exact out
end K81

set_option linter.all false
set_option Elab.async false
set_option maxRecDepth 100000
set_option maxHeartbeats 4000000
namespace K81
open PySem DC
theorem slim_tup' {K : Nat} {ds : List D} (h : slim K (.tup ds)) : ∃ k, K = k + 1 ∧ ds.length ≤ 999 ∧ ∀ d ∈ ds, slim k d := by
  cases K with
  | zero => unfold slim at h; exact h.elim
  | succ k => exact ⟨k, rfl, slim_tup h⟩
theorem b_ne {h : List Cell} {a b : Bool} : cmpD .ne h (.bl a) (.bl b) = some (.bl (!(a == b))) := rfl
theorem ne_self {h : List Cell} {a : Bool} : cmpD .ne h (.bl a) (.bl a) = some (.bl false) := by cases a <;> rfl
theorem isi_bl {h : List Cell} {a : Bool} : isiD .bool h (.bl a) = some true := rfl
/-- one of the five things -/
def bdT : List CS := [.asg 8 (.call 8 [(.v 7)]),
    .ite (.or (.not (.isi .bool (.v 8))) (.cmp .ne (.v 8) (.call 20 [(.v 7)]))) [.ret (.c (.bl false))] []]
theorem turn {s0 s1 s2 s3 s4 s5 s6 s8 : Slot} {d : D} {h : List Cell} {m : Nat} {R : D → List Cell → Prop} (hg : good 12 d) (hm : 31 ≤ m) : okCs T (callN T m) bdT [s0, s1, s2, s3, s4, s5, s6, .val d, s8] h (fun Γ h' => Γ = [s0, s1, s2, s3, s4, s5, s6, .val d, .val (.bl (progB 12 d))] ∧ h' = h) R := by
  unfold bdT
  simp only [okCs_cons, okCs_nil, okC_asg, okC_ite, okE_or, okE_not, okE_isi, okE_cmp, okE_call, okEs_cons, okEs_nil, okE_v, List.getElem?_cons_zero, List.getElem?_cons_succ, List.set_cons_succ, List.set_cons_zero, onVal_val, is_program 12 d hg m _ (by omega), law_is_program 12 d hg m _ (by omega), okO_ok, isi_bl, onO_some, onB_bl, Bool.not_true, Bool.false_eq_true, if_false, ne_self]
  exact ⟨trivial, trivial⟩
theorem five {ds : List D} {bent : D} {k : Int} {m : Nat} {h : List Cell} (hs : ∀ K, 12 ≤ K → slim K (.tup ds)) (hb : good 12 bent) (h0 : 0 ≤ k) (h1 : k < 20) : ∃ r, (∃ as, slI h (.tup ds) none (some 1) = some (.tup as) ∧ binD .mul h (.tup as) (.int (1 + k)) = some r) ∧ ∀ d ∈ [.tup ds, bent, .lst ds, r, bent], good 12 d := by
  obtain ⟨_, e, hz, hg⟩ := slim_tup' (hs 12 (Nat.le_refl _))
  cases e
  obtain ⟨n, hn, hn1⟩ : ∃ n : Nat, 1 + k = n ∧ n ≤ 20 := ⟨(1 + k).toNat, by omega, by omega⟩
  refine ⟨.tup ((List.replicate n (ds.take 1)).flatten), ⟨ds.take 1, ?_, ?_⟩, fun d hd => ?_⟩
  · show some (D.tup (cut ds none (some ((1 : Nat) : Int)))) = _
    rw [cut_take]
  · show (if _ then _ else _) = _
    rw [hn, if_pos ⟨by rw [List.length_take]; omega, by omega, by omega⟩]
    rfl
  · simp only [List.mem_cons, List.not_mem_nil, or_false] at hd
    rcases hd with rfl | rfl | rfl | rfl | rfl
    · exact (hs 12 (Nat.le_refl _)).good
    · exact hb
    · have := (hs 12 (Nat.le_refl _)).good
      unfold good at this ⊢
      exact this
    · refine good_mk ?_ fun d hd => ?_
      · rw [List.length_flatten, List.map_replicate, List.sum_replicate_nat, List.length_take]
        have : n * min 1 ds.length ≤ 20 * 1 := Nat.mul_le_mul hn1 (Nat.min_le_left _ _)
        omega
      · obtain ⟨l, hl, hd⟩ := List.mem_flatten.mp hd
        rw [List.eq_of_mem_replicate hl] at hd
        exact (hg d (List.mem_of_mem_take hd)).good
    · exact hb
/-- a turn of the law's walk -/
def bdL : List CS := [.asg 3 (.call 9 [(.v 0), (.v 1)]),
    .asg 4 (.call 11 [(.v 3), (.bin .add (.c (.int 1)) (.call 10 [(.v 3), (.c (.int 5))]))]),
    .asg 5 (.call 15 [(.v 3), (.v 4)]),
    .asg 6 (.call 22 [(.v 3), (.v 5), (.bin .add (.c (.int 1)) (.call 10 [(.v 3), (.c (.int 6))]))]),
    .for_ .seq [(.tup [(.v 5), (.v 6), (.b1 .list (.v 5)), (.bin .mul (.sl (.v 5) .no (.c (.int 1))) (.bin .add (.c (.int 1)) (.call 10 [(.v 3), (.c (.int 20))]))), (.v 6)])] (.one 7) bdT,
    .ite (.not (.call 8 [(.v 5)])) [.ret (.c (.bl false))] []]
theorem bodyL {ns : List Int} (hz : ns.length ≤ 63) {k : Int} (hk : 0 ≤ k) {s2 s3 s4 s5 s6 s7 s8 : Slot} {h : List Cell} {R : D → List Cell → Prop} {m : Nat} (hm : 60 ≤ m) : okCs T (callN T m) bdL [.val (.scr (ns.map .int)), .val (.int k), s2, s3, s4, s5, s6, s7, s8] h (fun Γ _ => ∃ s1 s2 s3 s4 s5 s6 s7 s8, Γ = [.val (.scr (ns.map .int)), s1, s2, s3, s4, s5, s6, s7, s8]) R := by
  unfold bdL
  rw [okCs_cons]
  simp only [okC_asg, okE_call, okEs_cons, okEs_nil, okE_v, List.getElem?_cons_zero, List.getElem?_cons_succ, onVal_val]
  refine (law_state hk hz (by omega)).mono fun r h1 ⟨c, e1, e2, hc⟩ => ?_
  have hs : stOk h1[h.length]? := by
    subst e2
    simpa using hc
  subst e1
  clear e2 hc
  generalize h.length = s at hs ⊢
  simp only [List.set_cons_succ, List.set_cons_zero]
  rw [okCs_cons]
  simp only [okC_asg, okE_bin, okE_call, okEs_cons, okEs_nil, okE_v, okE_c, List.getElem?_cons_zero, List.getElem?_cons_succ, onVal_val]
  refine (law_nextU hs (size := 5) (by decide) (by decide) (by omega)).mono fun r h2 ⟨i, e, i1, i2, U2⟩ => ?_
  subst e
  simp only [b_add, onO_some]
  refine (law_keys U2.st (size := 1 + i) (by omega) (by omega) (by omega)).mono fun r h3 ⟨⟨names, e, hn⟩, U3⟩ => ?_
  subst e
  simp only [List.set_cons_succ, List.set_cons_zero]
  rw [okCs_cons]
  simp only [okC_asg, okE_call, okEs_cons, okEs_nil, okE_v, okE_c, List.getElem?_cons_zero, List.getElem?_cons_succ, onVal_val]
  refine (law_program U3.st hn (by omega)).mono fun r h4 ⟨⟨ds, e⟩, g4, hs4⟩ => ?_
  subst e
  simp only [List.set_cons_succ, List.set_cons_zero]
  rw [okCs_cons]
  simp only [okC_asg, okE_bin, okE_call, okEs_cons, okEs_nil, okE_v, okE_c, List.getElem?_cons_zero, List.getElem?_cons_succ, onVal_val]
  refine (law_nextU hs4 (size := 6) (by decide) (by decide) (by omega)).mono fun r h5 ⟨j, e, j1, j2, U5⟩ => ?_
  subst e
  obtain ⟨lf, el, hlf⟩ : ∃ n : Nat, 1 + j = n ∧ n ≤ 6 := ⟨(1 + j).toNat, by omega, by omega⟩
  simp only [b_add, onO_some, el]
  refine (law_bent lf 12 (by omega) (g4 12 (Nat.le_refl _)).1 U5.st (by omega)).mono fun bent h6 ⟨gb, U6⟩ => ?_
  simp only [List.set_cons_succ, List.set_cons_zero]
  rw [okCs_cons]
  have el : ∀ h : List Cell, b1D .list h (.tup ds) = some (.lst ds) := fun _ => rfl
  simp only [okC_for, okE_bin, okE_tup, okE_b1, okE_sl, okE_call, okEs_cons, okEs_nil, okE_v, okE_c, okE_no, isNo, boundC, List.getElem?_cons_zero, List.getElem?_cons_succ, onVal_val, onO_some, el]
  have p1 : ∃ as, slI h6 (.tup ds) none (some 1) = some (.tup as) ∧ ∀ k : Int, 0 ≤ k → k < 20 → ∀ h, ∃ r, binD .mul h (.tup as) (.int (1 + k)) = some r ∧ ∀ d ∈ [.tup ds, bent, .lst ds, r, bent], good 12 d := by
    refine ⟨ds.take 1, ?_, fun k k0 k1 h => ?_⟩
    · show some (D.tup (cut ds none (some ((1 : Nat) : Int)))) = _
      rw [cut_take]
    · obtain ⟨r, ⟨as, e1, e2⟩, g⟩ := five (m := m) (h := h) (fun K hK => (g4 K hK).1) gb k0 k1
      have : as = ds.take 1 := by
        have e3 : some (D.tup (cut ds none (some ((1 : Nat) : Int)))) = some (.tup as) := e1
        rw [cut_take] at e3
        cases e3
        rfl
      subst this
      exact ⟨r, e2, g⟩
  obtain ⟨as, e1, p2⟩ := p1
  simp only [e1, onO_some]
  refine (law_nextU U6.st (size := 20) (by decide) (by decide) (by omega)).mono fun r h7 ⟨q, e, q1, q2, U7⟩ => ?_
  subst e
  simp only [b_add, onO_some]
  obtain ⟨r, e3, g⟩ := p2 q q1 q2 h7
  simp only [e3, onO_some]
  refine ⟨(show (5 : Nat) ≤ 16777216 by decide), ?_⟩
  simp only [itemsOf, onO_some]
  refine for_inv (fun _ Γ _ => ∃ s7 s8, Γ = [.val (.scr (ns.map .int)), .val (.int k), s2, .val (.ref s), .val (.lst names), .val (.tup ds), .val bent, s7, s8]) (i := 0) ⟨_, _, rfl⟩ ?_ ?_
  · rintro j d Γ h8 ed ⟨s7, s8, rfl⟩
    rw [okS_forF]
    simp only [setTg, onO_some, List.set_cons_succ, List.set_cons_zero]
    exact (turn (g d (List.mem_of_getElem? ed)) (by omega)).mono (fun Γ h' ⟨q, _⟩ => ⟨_, _, q⟩) fun _ _ q => q
  · rintro Γ h8 ⟨s7, s8, rfl⟩
    simp only [okCs_cons, okCs_nil, okC_ite, okE_not, okE_call, okEs_cons, okEs_nil, okE_v, List.getElem?_cons_zero, List.getElem?_cons_succ, onVal_val, is_program 12 _ (g4 12 (Nat.le_refl _)).1.good m _ (by omega), (g4 12 (Nat.le_refl _)).2, okO_ok, onB_bl, Bool.not_true, Bool.false_eq_true, if_false]
    exact ⟨_, _, _, _, _, _, _, _, rfl⟩
/-- the last rows -/
def nxt (k : Int) (P : D) : D := .tup [.tup [.str "if", .tup [.str "number", .int k], if k % 2 = 0 then P else .tup [], if k % 2 = 0 then .tup [] else P]]
def bdZ : List CS := [.asg 2 (.tup [(.tup [(.c (.str "if")), (.tup [(.c (.str "number")), (.v 1)]), (.ix (.lst [(.v 2), (.tup [])]) (.bin .mod (.v 1) (.c (.int 2)))), (.ix (.lst [(.tup []), (.v 2)]) (.bin .mod (.v 1) (.c (.int 2))))])]),
    .ite (.cmp .ne (.call 8 [(.v 2)]) (.cmp .lt (.v 1) (.c (.int 4)))) [.ret (.c (.bl false))] []]
theorem stepZ {s0 s3 s4 s5 s6 s7 s8 : Slot} {k : Int} {P : D} {h : List Cell} {m : Nat} {R : D → List Cell → Prop} (hg : good 12 (nxt k P)) (hp : progB 12 (nxt k P) = decide (k < 4)) (hm : 31 ≤ m) : okCs T (callN T m) bdZ [s0, .val (.int k), .val P, s3, s4, s5, s6, s7, s8] h (fun Γ h' => Γ = [s0, .val (.int k), .val (nxt k P), s3, s4, s5, s6, s7, s8] ∧ h' = h) R := by
  have l0 : (0 : Nat) ≤ maxLen := Nat.zero_le _
  have l1 : (1 : Nat) ≤ maxLen := show 1 ≤ 16777216 by decide
  have l2 : (2 : Nat) ≤ maxLen := show 2 ≤ 16777216 by decide
  have l4 : (4 : Nat) ≤ maxLen := show 4 ≤ 16777216 by decide
  have e1 : L2.atI [P, .tup []] (k % 2) = some (if k % 2 = 0 then P else .tup []) := by
    rcases (show k % 2 = 0 ∨ k % 2 = 1 by omega) with e | e <;> rw [e] <;> first | exact at0 | exact at1
  have e2 : L2.atI [.tup [], P] (k % 2) = some (if k % 2 = 0 then .tup [] else P) := by
    rcases (show k % 2 = 0 ∨ k % 2 = 1 by omega) with e | e <;> rw [e] <;> first | exact at0 | exact at1
  unfold bdZ
  simp only [okCs_cons, okCs_nil, okC_asg, okC_ite, okE_tup, okE_lst, okE_ix, okE_cmp, okE_bin, okE_call, okEs_cons, okEs_nil, okE_v, okE_c, List.getElem?_cons_zero, List.getElem?_cons_succ, List.set_cons_succ, List.set_cons_zero, onVal_val, b_mod (show (0 : Int) < 2 by decide), onO_some, ix_lst, e1, e2, List.length_cons, List.length_nil]
  refine ⟨l2, l0, l2, l0, l2, l4, l1, ?_⟩
  have := is_program 12 _ hg m h (by omega)
  unfold nxt at this
  rw [this]
  unfold nxt at hp
  simp only [okO_ok, c_lt, onO_some, hp, ne_self, onB_bl, Bool.false_eq_true, if_false]
  exact ⟨rfl, trivial⟩
def P0 : D := .tup [.tup [.str "end"]]
def P1 : D := nxt 1 P0
def P2 : D := nxt 2 P1
def P3 : D := nxt 3 P2
def P4 : D := nxt 4 P3
theorem law_true (ns : List Int) (hz : ns.length ≤ 63) : ∃ h', callN T (63 + 1) 23 [.scr (ns.map .int)] [] = some (.ok (.bl true) h') := by
  have main : okO (callN T (63 + 1) 23 [.scr (ns.map .int)] []) fun r _ => r = .bl true := by
    refine ok_call (n := 63) (F := ⟨1, 9, b23⟩) rfl rfl ?_
    show okCs T (callN T 63) b23 [.val (.scr (ns.map .int)), .no, .no, .no, .no, .no, .no, .no, .no] [] _ _
    have hl : ∃ n : Nat, n ≤ 63 ∧ b2D .min (.int 63) (.int (ns.map D.int).length) = some (.int (min 63 ns.length : Nat)) ∧ b2D .max (.int 1) (.int (min 63 ns.length : Nat)) = some (.int n) := by
      refine ⟨max 1 (min 63 ns.length), by omega, ?_, ?_⟩
      · show some (D.int (if ((ns.map D.int).length : Int) < 63 then ((ns.map D.int).length : Int) else 63)) = _
        rw [List.length_map]
        congr 2
        split <;> omega
      · show some (D.int (if ((min 63 ns.length : Nat) : Int) > 1 then ((min 63 ns.length : Nat) : Int) else 1)) = _
        congr 2
        split <;> omega
    obtain ⟨n, hn, e1, e2⟩ := hl
    unfold b23
    rw [okCs_cons]
    simp only [okC_for, okE_b2, okE_b1, okEs_cons, okEs_nil, okE_v, okE_c, List.getElem?_cons_zero, onVal_val, l_scr, onO_some, e1, e2, items_r1 (show n ≤ 1000 by omega)]
    refine for_inv (fun _ Γ _ => ∃ s1 s2 s3 s4 s5 s6 s7 s8, Γ = [.val (.scr (ns.map .int)), s1, s2, s3, s4, s5, s6, s7, s8]) (i := 0) ⟨_, _, _, _, _, _, _, _, rfl⟩ ?_ ?_
    · rintro j d Γ h ed ⟨s1, s2, s3, s4, s5, s6, s7, s8, rfl⟩
      obtain ⟨k, hk, rfl⟩ := mem_range (List.mem_of_getElem? ed)
      rw [okS_forF]
      simp only [setTg, onO_some, List.set_cons_succ, List.set_cons_zero]
      exact bodyL hz (by omega) (by decide)
    · rintro Γ h ⟨s1, s2, s3, s4, s5, s6, s7, s8, rfl⟩
      have l1 : (1 : Nat) ≤ maxLen := show 1 ≤ 16777216 by decide
      refine okCs_step (Γ' := [.val (.scr (ns.map .int)), s1, .val P0, s3, s4, s5, s6, s7, s8]) (h' := h) (by
        simp only [okC_asg, okE_tup, okEs_cons, okEs_nil, okE_c, List.set_cons_succ, List.set_cons_zero, List.length_cons, List.length_nil]
        exact ⟨l1, l1, rfl, trivial⟩) ?_
      rw [okCs_cons]
      simp only [okC_for, okEs_cons, okEs_nil, okE_c]
      have ei : itemsOf .range2 h [.int 1, .int 5] = some [.int 1, .int 2, .int 3, .int 4] := rfl
      simp only [ei, onO_some]
      have go : ∀ {k : Int} {P : D} {s1 : Slot} {r : List D} {N : List Slot → List Cell → Prop} {R : D → List Cell → Prop}, goodB 12 (nxt k P) = true → progB 12 (nxt k P) = decide (k < 4) → okS (forL (forF T (callN T 63) (.one 1) bdZ) r [.val (.scr (ns.map .int)), .val (.int k), .val (nxt k P), s3, s4, s5, s6, s7, s8] h) N R → okS (forL (forF T (callN T 63) (.one 1) bdZ) (.int k :: r) [.val (.scr (ns.map .int)), s1, .val P, s3, s4, s5, s6, s7, s8] h) N R := by
        intro k P s1 r N R hg hp hk
        refine for_cons ?_
        rw [okS_forF]
        simp only [setTg, onO_some, List.set_cons_succ, List.set_cons_zero]
        refine (stepZ (goodB_good hg) hp (by decide)).mono (fun Γ h' ⟨q1, q2⟩ => ?_) fun _ _ q => q
        subst q1 q2
        exact hk
      refine go (by decide +kernel) (by decide +kernel) ?_
      refine go (by decide +kernel) (by decide +kernel) ?_
      refine go (by decide +kernel) (by decide +kernel) ?_
      refine go (by decide +kernel) (by decide +kernel) ?_
      rw [forL]
      show okCs T (callN T 63) [.ret (.and (.call 8 [.tup [.tup [.c (.str "end")]]]) (.not (.call 8 [.tup []])))] [.val (.scr (ns.map .int)), .val (.int 4), .val (nxt 4 (nxt 3 (nxt 2 (nxt 1 P0)))), s3, s4, s5, s6, s7, s8] h (fun _ _ => D.non = .bl true) fun r _ => r = .bl true
      have g0 : good 12 P0 := goodB_good (by decide +kernel)
      have g1 : good 12 (.tup []) := goodB_good (by decide +kernel)
      have p0 : progB 12 P0 = true := by decide +kernel
      have p1 : progB 12 (.tup []) = false := by decide +kernel
      have i0 := fun h => is_program 12 _ g0 63 h (by decide)
      unfold P0 at i0 p0
      simp only [okCs_cons, okC_ret, okE_and, okE_not, okE_call, okE_tup, okEs_cons, okEs_nil, okE_c, List.length_cons, List.length_nil]
      refine ⟨l1, l1, ?_⟩
      simp only [i0, okO_ok, p0, onB_bl, if_true]
      refine ⟨Nat.zero_le _, ?_⟩
      simp only [is_program 12 _ g1 63 _ (show 31 ≤ 63 by decide), okO_ok, p1, onB_bl, Bool.not_false]
  revert main
  generalize callN T (63 + 1) 23 [.scr (ns.map .int)] [] = r
  intro main
  match r, main with
  | some (.ok d h'), q =>
    have q : d = .bl true := q
    subst q
    exact ⟨h', rfl⟩
end K81

set_option linter.all false
set_option Elab.async false
set_option maxRecDepth 100000
set_option maxHeartbeats 4000000
namespace K81
open PySem PySem.Spec PyProof.Rows L2 DC
theorem ok : tab.all (okFD (mkC tab gt)) = true := by decide +kernel
theorem fn_here {K : PySem.W.Frag} {h : Heap} {mg : Str → Option Value} (X : K.In h) (G : h.Ns mainGlobals mg) {x : Str} {st : Stmt} {f : Addr} {oc : Value} {od an : Option Addr} {sl : Array (Option Value)} {kV dc pm cd ct : Value}
    (a : PySem.W.nsIn K mainGlobals x = some (some (.ref f))) (l : K.lookup f = some ⟨oc, od, .func (PySem.W.fnOf x x (defArgs st) (defBody st) (defScope st) .none kV dc pm an cd ct), sl⟩) (c : PySem.W.codeIn K cd x = true) (k : PySem.W.keepIn K (.ref f) = true) :
    ∃ (fa : Addr) (fd : FuncData), Fun K x x st fa fd ∧ mg x = some (.ref fa) := ⟨_, _, fun_mk l c k, PySem.W.mg_of X G a⟩
theorem gl0 {K : PySem.W.Frag} {h : Heap} {mg : Str → Option Value} (X : K.In h) (G : h.Ns mainGlobals mg) {t0 : Tok}
    (a : PySem.W.nsIn K mainGlobals "LETTERS" = some (some (.str "abcdefghijklmnopqrstuvwxyz" t0)))  :
    ∃ (u : Value) (v : V), mg "LETTERS" = some u ∧ RelV v u ∧ ∀ G μ, RD K G μ (.str "abcdefghijklmnopqrstuvwxyz") v :=
  ⟨_, (.str "abcdefghijklmnopqrstuvwxyz"), PySem.W.mg_of X G a, ⟨_, rfl⟩, fun G μ => show RD _ G μ (.str "abcdefghijklmnopqrstuvwxyz") (.str "abcdefghijklmnopqrstuvwxyz") from ⟨rfl, by decide +kernel⟩⟩
theorem gl1 {K : PySem.W.Frag} {h : Heap} {mg : Str → Option Value} (X : K.In h) (G : h.Ns mainGlobals mg) {t0 : Tok}
    (a : PySem.W.nsIn K mainGlobals "MOST_LETTERS" = some (some (.int 4 t0)))  :
    ∃ (u : Value) (v : V), mg "MOST_LETTERS" = some u ∧ RelV v u ∧ ∀ G μ, RD K G μ (.int 4) v :=
  ⟨_, (.int 4), PySem.W.mg_of X G a, ⟨_, rfl⟩, fun G μ => show RD _ G μ (.int 4) (.int 4) from rfl⟩
theorem gl2 {K : PySem.W.Frag} {h : Heap} {mg : Str → Option Value} (X : K.In h) (G : h.Ns mainGlobals mg) {t0 : Tok} {t1 : Tok} {t2 : Tok} {t3 : Tok} {t4 : Tok} {t5 : Tok} {t6 : Tok} {t7 : Tok} {a0 : Addr} {od0 : Option Addr} {n0 : Nat} {sl0 : Array (Option Value)}
    (a : PySem.W.nsIn K mainGlobals "KEPT_WORDS" = some (some (.ref a0))) (l0 : K.lookup a0 = some ⟨.type "tuple", od0, .seq #[.str "get" t0, .str "put" t1, .str "let" t2, .str "if" t3, .str "else" t4, .str "fi" t5, .str "end" t6, .str "drop" t7] n0, sl0⟩) :
    ∃ (u : Value) (v : V), mg "KEPT_WORDS" = some u ∧ RelV v u ∧ ∀ G μ, RD K G μ (.tup [(.str "get"), (.str "put"), (.str "let"), (.str "if"), (.str "else"), (.str "fi"), (.str "end"), (.str "drop")]) v :=
  ⟨_, (.ref a0), PySem.W.mg_of X G a, rfl, fun G μ => show RD _ G μ (.tup [(.str "get"), (.str "put"), (.str "let"), (.str "if"), (.str "else"), (.str "fi"), (.str "end"), (.str "drop")]) (.ref _) from ⟨_, _, rfl, .inr ⟨_, _, _, l0, rfl, rfl, (show (8 : Nat) ≤ sizeLine by decide +kernel), (.cons (show RelV (.str "get") _ from ⟨_, rfl⟩) (.cons (show RelV (.str "put") _ from ⟨_, rfl⟩) (.cons (show RelV (.str "let") _ from ⟨_, rfl⟩) (.cons (show RelV (.str "if") _ from ⟨_, rfl⟩) (.cons (show RelV (.str "else") _ from ⟨_, rfl⟩) (.cons (show RelV (.str "fi") _ from ⟨_, rfl⟩) (.cons (show RelV (.str "end") _ from ⟨_, rfl⟩) (.cons (show RelV (.str "drop") _ from ⟨_, rfl⟩) .nil))))))))⟩, by decide +kernel, (RDs.cons (show RD _ _ _ (.str "get") _ from ⟨rfl, by decide +kernel⟩) (RDs.cons (show RD _ _ _ (.str "put") _ from ⟨rfl, by decide +kernel⟩) (RDs.cons (show RD _ _ _ (.str "let") _ from ⟨rfl, by decide +kernel⟩) (RDs.cons (show RD _ _ _ (.str "if") _ from ⟨rfl, by decide +kernel⟩) (RDs.cons (show RD _ _ _ (.str "else") _ from ⟨rfl, by decide +kernel⟩) (RDs.cons (show RD _ _ _ (.str "fi") _ from ⟨rfl, by decide +kernel⟩) (RDs.cons (show RD _ _ _ (.str "end") _ from ⟨rfl, by decide +kernel⟩) (RDs.cons (show RD _ _ _ (.str "drop") _ from ⟨rfl, by decide +kernel⟩) RDs.nil))))))))⟩⟩
theorem gl3 {K : PySem.W.Frag} {h : Heap} {mg : Str → Option Value} (X : K.In h) (G : h.Ns mainGlobals mg) {t0 : Tok}
    (a : PySem.W.nsIn K mainGlobals "VALUES" = some (some (.int 1000 t0)))  :
    ∃ (u : Value) (v : V), mg "VALUES" = some u ∧ RelV v u ∧ ∀ G μ, RD K G μ (.int 1000) v :=
  ⟨_, (.int 1000), PySem.W.mg_of X G a, ⟨_, rfl⟩, fun G μ => show RD _ G μ (.int 1000) (.int 1000) from rfl⟩
theorem gl4 {K : PySem.W.Frag} {h : Heap} {mg : Str → Option Value} (X : K.In h) (G : h.Ns mainGlobals mg) {t0 : Tok} {t1 : Tok} {t2 : Tok} {t3 : Tok} {t4 : Tok} {a0 : Addr} {od0 : Option Addr} {n0 : Nat} {sl0 : Array (Option Value)}
    (a : PySem.W.nsIn K mainGlobals "SIGNS" = some (some (.ref a0))) (l0 : K.lookup a0 = some ⟨.type "tuple", od0, .seq #[.str "+" t0, .str "-" t1, .str "*" t2, .str "<" t3, .str "=" t4] n0, sl0⟩) :
    ∃ (u : Value) (v : V), mg "SIGNS" = some u ∧ RelV v u ∧ ∀ G μ, RD K G μ (.tup [(.str "+"), (.str "-"), (.str "*"), (.str "<"), (.str "=")]) v :=
  ⟨_, (.ref a0), PySem.W.mg_of X G a, rfl, fun G μ => show RD _ G μ (.tup [(.str "+"), (.str "-"), (.str "*"), (.str "<"), (.str "=")]) (.ref _) from ⟨_, _, rfl, .inr ⟨_, _, _, l0, rfl, rfl, (show (5 : Nat) ≤ sizeLine by decide +kernel), (.cons (show RelV (.str "+") _ from ⟨_, rfl⟩) (.cons (show RelV (.str "-") _ from ⟨_, rfl⟩) (.cons (show RelV (.str "*") _ from ⟨_, rfl⟩) (.cons (show RelV (.str "<") _ from ⟨_, rfl⟩) (.cons (show RelV (.str "=") _ from ⟨_, rfl⟩) .nil)))))⟩, by decide +kernel, (RDs.cons (show RD _ _ _ (.str "+") _ from ⟨rfl, by decide +kernel⟩) (RDs.cons (show RD _ _ _ (.str "-") _ from ⟨rfl, by decide +kernel⟩) (RDs.cons (show RD _ _ _ (.str "*") _ from ⟨rfl, by decide +kernel⟩) (RDs.cons (show RD _ _ _ (.str "<") _ from ⟨rfl, by decide +kernel⟩) (RDs.cons (show RD _ _ _ (.str "=") _ from ⟨rfl, by decide +kernel⟩) RDs.nil)))))⟩⟩
theorem gl5 {K : PySem.W.Frag} {h : Heap} {mg : Str → Option Value} (X : K.In h) (G : h.Ns mainGlobals mg) {t0 : Tok}
    (a : PySem.W.nsIn K mainGlobals "DEEPEST" = some (some (.int 4 t0)))  :
    ∃ (u : Value) (v : V), mg "DEEPEST" = some u ∧ RelV v u ∧ ∀ G μ, RD K G μ (.int 4) v :=
  ⟨_, (.int 4), PySem.W.mg_of X G a, ⟨_, rfl⟩, fun G μ => show RD _ G μ (.int 4) (.int 4) from rfl⟩
theorem gl6 {K : PySem.W.Frag} {h : Heap} {mg : Str → Option Value} (X : K.In h) (G : h.Ns mainGlobals mg) {t0 : Tok}
    (a : PySem.W.nsIn K mainGlobals "MOST_IFS" = some (some (.int 3 t0)))  :
    ∃ (u : Value) (v : V), mg "MOST_IFS" = some u ∧ RelV v u ∧ ∀ G μ, RD K G μ (.int 3) v :=
  ⟨_, (.int 3), PySem.W.mg_of X G a, ⟨_, rfl⟩, fun G μ => show RD _ G μ (.int 3) (.int 3) from rfl⟩
theorem gl7 {K : PySem.W.Frag} {h : Heap} {mg : Str → Option Value} (X : K.In h) (G : h.Ns mainGlobals mg) {t0 : Tok} {a1 : Addr} {od1 : Option Addr} {n1 : Nat} {sl1 : Array (Option Value)} {t1 : Tok} {a2 : Addr} {od2 : Option Addr} {n2 : Nat} {sl2 : Array (Option Value)} {a0 : Addr} {od0 : Option Addr} {n0 : Nat} {sl0 : Array (Option Value)}
    (a : PySem.W.nsIn K mainGlobals "LAST_ONES" = some (some (.ref a0))) (l0 : K.lookup a0 = some ⟨.type "tuple", od0, .seq #[.ref a1, .ref a2] n0, sl0⟩) (l1 : K.lookup a1 = some ⟨.type "tuple", od1, .seq #[.str "end" t0] n1, sl1⟩) (l2 : K.lookup a2 = some ⟨.type "tuple", od2, .seq #[.str "drop" t1] n2, sl2⟩) :
    ∃ (u : Value) (v : V), mg "LAST_ONES" = some u ∧ RelV v u ∧ ∀ G μ, RD K G μ (.tup [(.tup [(.str "end")]), (.tup [(.str "drop")])]) v :=
  ⟨_, (.ref a0), PySem.W.mg_of X G a, rfl, fun G μ => show RD _ G μ (.tup [(.tup [(.str "end")]), (.tup [(.str "drop")])]) (.ref _) from ⟨_, _, rfl, .inr ⟨_, _, _, l0, rfl, rfl, (show (2 : Nat) ≤ sizeLine by decide +kernel), (.cons (show RelV (.ref _) _ from rfl) (.cons (show RelV (.ref _) _ from rfl) .nil))⟩, by decide +kernel, (RDs.cons (show RD _ _ _ (.tup [(.str "end")]) _ from ⟨_, _, rfl, .inr ⟨_, _, _, l1, rfl, rfl, (show (1 : Nat) ≤ sizeLine by decide +kernel), (.cons (show RelV (.str "end") _ from ⟨_, rfl⟩) .nil)⟩, by decide +kernel, (RDs.cons (show RD _ _ _ (.str "end") _ from ⟨rfl, by decide +kernel⟩) RDs.nil)⟩) (RDs.cons (show RD _ _ _ (.tup [(.str "drop")]) _ from ⟨_, _, rfl, .inr ⟨_, _, _, l2, rfl, rfl, (show (1 : Nat) ≤ sizeLine by decide +kernel), (.cons (show RelV (.str "drop") _ from ⟨_, rfl⟩) .nil)⟩, by decide +kernel, (RDs.cons (show RD _ _ _ (.str "drop") _ from ⟨rfl, by decide +kernel⟩) RDs.nil)⟩) RDs.nil))⟩⟩
theorem gl8 {K : PySem.W.Frag} {h : Heap} {mg : Str → Option Value} (X : K.In h) (G : h.Ns mainGlobals mg) {t0 : Tok}
    (a : PySem.W.nsIn K mainGlobals "MOST_ASKED" = some (some (.int 8 t0)))  :
    ∃ (u : Value) (v : V), mg "MOST_ASKED" = some u ∧ RelV v u ∧ ∀ G μ, RD K G μ (.int 8) v :=
  ⟨_, (.int 8), PySem.W.mg_of X G a, ⟨_, rfl⟩, fun G μ => show RD _ G μ (.int 8) (.int 8) from rfl⟩
theorem gl9 {K : PySem.W.Frag} {h : Heap} {mg : Str → Option Value} (X : K.In h) (G : h.Ns mainGlobals mg) {t0 : Tok}
    (a : PySem.W.nsIn K mainGlobals "MOST_LINES" = some (some (.int 16 t0)))  :
    ∃ (u : Value) (v : V), mg "MOST_LINES" = some u ∧ RelV v u ∧ ∀ G μ, RD K G μ (.int 16) v :=
  ⟨_, (.int 16), PySem.W.mg_of X G a, ⟨_, rfl⟩, fun G μ => show RD _ G μ (.int 16) (.int 16) from rfl⟩
theorem bd0 {K : PySem.W.Frag} {fa : Addr} {fd : FuncData} (F : Fun K "is_key" "is_key" (top 3) fa fd) : Binds K fd ["thing"] [] := F.binds (ps := ["thing"]) fun _ _ _ _ _ _ us hl => match us, hl with | [_], _ => rfl
theorem bd1 {K : PySem.W.Frag} {fa : Addr} {fd : FuncData} (F : Fun K "is_label" "is_label" (top 13) fa fd) : Binds K fd ["thing"] [] := F.binds (ps := ["thing"]) fun _ _ _ _ _ _ us hl => match us, hl with | [_], _ => rfl
theorem bd2 {K : PySem.W.Frag} {fa : Addr} {fd : FuncData} (F : Fun K "is_value" "is_value" (top 14) fa fd) : Binds K fd ["thing"] [] := F.binds (ps := ["thing"]) fun _ _ _ _ _ _ us hl => match us, hl with | [_], _ => rfl
theorem bd3 {K : PySem.W.Frag} {fa : Addr} {fd : FuncData} (F : Fun K "is_sum" "is_sum" (top 15) fa fd) : Binds K fd ["thing", "left"] [] := F.binds (ps := ["thing", "left"]) fun _ _ _ _ _ _ us hl => match us, hl with | [_, _], _ => rfl
theorem bd4 {K : PySem.W.Frag} {fa : Addr} {fd : FuncData} (F : Fun K "is_line" "is_line" (top 16) fa fd) : Binds K fd ["thing", "ifs"] [] := F.binds (ps := ["thing", "ifs"]) fun _ _ _ _ _ _ us hl => match us, hl with | [_, _], _ => rfl
theorem bd5 {K : PySem.W.Frag} {fa : Addr} {fd : FuncData} (F : Fun K "are_lines" "are_lines" (top 17) fa fd) : Binds K fd ["thing", "ifs"] [] := F.binds (ps := ["thing", "ifs"]) fun _ _ _ _ _ _ us hl => match us, hl with | [_, _], _ => rfl
theorem bd6 {K : PySem.W.Frag} {fa : Addr} {fd : FuncData} (F : Fun K "count_lines" "count_lines" (top 18) fa fd) : Binds K fd ["lines"] [] := F.binds (ps := ["lines"]) fun _ _ _ _ _ _ us hl => match us, hl with | [_], _ => rfl
theorem bd7 {K : PySem.W.Frag} {fa : Addr} {fd : FuncData} (F : Fun K "count_asked" "count_asked" (top 19) fa fd) : Binds K fd ["lines"] [] := F.binds (ps := ["lines"]) fun _ _ _ _ _ _ us hl => match us, hl with | [_], _ => rfl
theorem bd8 {K : PySem.W.Frag} {fa : Addr} {fd : FuncData} (F : Fun K "is_program" "is_program" (top 20) fa fd) : Binds K fd ["thing"] [] := F.binds (ps := ["thing"]) fun _ _ _ _ _ _ us hl => match us, hl with | [_], _ => rfl
theorem bd9 {K : PySem.W.Frag} {fa : Addr} {fd : FuncData} (F : Fun K "_law_state" "_law_state" (top 22) fa fd) : Binds K fd ["_law_script", "_law_k"] [] := F.binds (ps := ["_law_script", "_law_k"]) fun _ _ _ _ _ _ us hl => match us, hl with | [_, _], _ => rfl
theorem bd10 {K : PySem.W.Frag} {fa : Addr} {fd : FuncData} (F : Fun K "_law_next" "_law_next" (top 23) fa fd) : Binds K fd ["_law_state_here", "_law_size"] [] := F.binds (ps := ["_law_state_here", "_law_size"]) fun _ _ _ _ _ _ us hl => match us, hl with | [_, _], _ => rfl
theorem bd11 {K : PySem.W.Frag} {fa : Addr} {fd : FuncData} (F : Fun K "_law_keys" "_law_keys" (top 24) fa fd) : Binds K fd ["_law_state_here", "_law_size"] [] := F.binds (ps := ["_law_state_here", "_law_size"]) fun _ _ _ _ _ _ us hl => match us, hl with | [_, _], _ => rfl
theorem bd12 {K : PySem.W.Frag} {fa : Addr} {fd : FuncData} (F : Fun K "_law_sum" "_law_sum" (top 25) fa fd) : Binds K fd ["_law_state_here", "_law_names", "_law_deep"] [] := F.binds (ps := ["_law_state_here", "_law_names", "_law_deep"]) fun _ _ _ _ _ _ us hl => match us, hl with | [_, _, _], _ => rfl
theorem bd13 {K : PySem.W.Frag} {fa : Addr} {fd : FuncData} (F : Fun K "_law_line" "_law_line" (top 26) fa fd) : Binds K fd ["_law_state_here", "_law_names", "_law_room", "_law_ifs"] [] := F.binds (ps := ["_law_state_here", "_law_names", "_law_room", "_law_ifs"]) fun _ _ _ _ _ _ us hl => match us, hl with | [_, _, _, _], _ => rfl
theorem bd14 {K : PySem.W.Frag} {fa : Addr} {fd : FuncData} (F : Fun K "_law_lines" "_law_lines" (top 27) fa fd) : Binds K fd ["_law_state_here", "_law_names", "_law_room", "_law_ifs", "_law_most"] [] := F.binds (ps := ["_law_state_here", "_law_names", "_law_room", "_law_ifs", "_law_most"]) fun _ _ _ _ _ _ us hl => match us, hl with | [_, _, _, _, _], _ => rfl
theorem bd15 {K : PySem.W.Frag} {fa : Addr} {fd : FuncData} (F : Fun K "_law_program" "_law_program" (top 28) fa fd) : Binds K fd ["_law_state_here", "_law_names"] [] := F.binds (ps := ["_law_state_here", "_law_names"]) fun _ _ _ _ _ _ us hl => match us, hl with | [_, _], _ => rfl
theorem bd16 {K : PySem.W.Frag} {fa : Addr} {fd : FuncData} (F : Fun K "_law_is_label" "_law_is_label" (top 29) fa fd) : Binds K fd ["_law_thing"] [] := F.binds (ps := ["_law_thing"]) fun _ _ _ _ _ _ us hl => match us, hl with | [_], _ => rfl
theorem bd17 {K : PySem.W.Frag} {fa : Addr} {fd : FuncData} (F : Fun K "_law_sum_deep" "_law_sum_deep" (top 30) fa fd) : Binds K fd ["_law_thing"] [] := F.binds (ps := ["_law_thing"]) fun _ _ _ _ _ _ us hl => match us, hl with | [_], _ => rfl
theorem bd18 {K : PySem.W.Frag} {fa : Addr} {fd : FuncData} (F : Fun K "_law_is_sum" "_law_is_sum" (top 31) fa fd) : Binds K fd ["_law_thing"] [] := F.binds (ps := ["_law_thing"]) fun _ _ _ _ _ _ us hl => match us, hl with | [_], _ => rfl
theorem bd19 {K : PySem.W.Frag} {fa : Addr} {fd : FuncData} (F : Fun K "_law_counted" "_law_counted" (top 32) fa fd) : Binds K fd ["_law_lines_here", "_law_ifs"] [] := F.binds (ps := ["_law_lines_here", "_law_ifs"]) fun _ _ _ _ _ _ us hl => match us, hl with | [_, _], _ => rfl
theorem bd20 {K : PySem.W.Frag} {fa : Addr} {fd : FuncData} (F : Fun K "_law_is_program" "_law_is_program" (top 33) fa fd) : Binds K fd ["_law_thing"] [] := F.binds (ps := ["_law_thing"]) fun _ _ _ _ _ _ us hl => match us, hl with | [_], _ => rfl
theorem bd21 {K : PySem.W.Frag} {fa : Addr} {fd : FuncData} (F : Fun K "_law_things" "_law_things" (top 34) fa fd) : Binds K fd [] [] := F.binds (ps := []) fun _ _ _ _ _ _ us hl => match us, hl with | [], _ => rfl
theorem bd22 {K : PySem.W.Frag} {fa : Addr} {fd : FuncData} (F : Fun K "_law_bent" "_law_bent" (top 35) fa fd) : Binds K fd ["_law_state_here", "_law_thing", "_law_left"] [] := F.binds (ps := ["_law_state_here", "_law_thing", "_law_left"]) fun _ _ _ _ _ _ us hl => match us, hl with | [_, _, _], _ => rfl
theorem bd23 {K : PySem.W.Frag} {fa : Addr} {fd : FuncData} (F : Fun K "law" "law" (top 36) fa fd) : Binds K fd ["_law_script"] [] := F.binds (ps := ["_law_script"]) fun _ _ _ _ _ _ us hl => match us, hl with | [_], _ => rfl
theorem top_mk {K : PySem.W.Frag} {mg : Str → Option Value} (h0 : ∃ (fa : Addr) (fd : FuncData), Fun K "is_key" "is_key" (top 3) fa fd ∧ mg "is_key" = some (.ref fa)) (h1 : ∃ (fa : Addr) (fd : FuncData), Fun K "is_label" "is_label" (top 13) fa fd ∧ mg "is_label" = some (.ref fa)) (h2 : ∃ (fa : Addr) (fd : FuncData), Fun K "is_value" "is_value" (top 14) fa fd ∧ mg "is_value" = some (.ref fa)) (h3 : ∃ (fa : Addr) (fd : FuncData), Fun K "is_sum" "is_sum" (top 15) fa fd ∧ mg "is_sum" = some (.ref fa)) (h4 : ∃ (fa : Addr) (fd : FuncData), Fun K "is_line" "is_line" (top 16) fa fd ∧ mg "is_line" = some (.ref fa)) (h5 : ∃ (fa : Addr) (fd : FuncData), Fun K "are_lines" "are_lines" (top 17) fa fd ∧ mg "are_lines" = some (.ref fa)) (h6 : ∃ (fa : Addr) (fd : FuncData), Fun K "count_lines" "count_lines" (top 18) fa fd ∧ mg "count_lines" = some (.ref fa)) (h7 : ∃ (fa : Addr) (fd : FuncData), Fun K "count_asked" "count_asked" (top 19) fa fd ∧ mg "count_asked" = some (.ref fa)) (h8 : ∃ (fa : Addr) (fd : FuncData), Fun K "is_program" "is_program" (top 20) fa fd ∧ mg "is_program" = some (.ref fa)) (h9 : ∃ (fa : Addr) (fd : FuncData), Fun K "_law_state" "_law_state" (top 22) fa fd ∧ mg "_law_state" = some (.ref fa)) (h10 : ∃ (fa : Addr) (fd : FuncData), Fun K "_law_next" "_law_next" (top 23) fa fd ∧ mg "_law_next" = some (.ref fa)) (h11 : ∃ (fa : Addr) (fd : FuncData), Fun K "_law_keys" "_law_keys" (top 24) fa fd ∧ mg "_law_keys" = some (.ref fa)) (h12 : ∃ (fa : Addr) (fd : FuncData), Fun K "_law_sum" "_law_sum" (top 25) fa fd ∧ mg "_law_sum" = some (.ref fa)) (h13 : ∃ (fa : Addr) (fd : FuncData), Fun K "_law_line" "_law_line" (top 26) fa fd ∧ mg "_law_line" = some (.ref fa)) (h14 : ∃ (fa : Addr) (fd : FuncData), Fun K "_law_lines" "_law_lines" (top 27) fa fd ∧ mg "_law_lines" = some (.ref fa)) (h15 : ∃ (fa : Addr) (fd : FuncData), Fun K "_law_program" "_law_program" (top 28) fa fd ∧ mg "_law_program" = some (.ref fa)) (h16 : ∃ (fa : Addr) (fd : FuncData), Fun K "_law_is_label" "_law_is_label" (top 29) fa fd ∧ mg "_law_is_label" = some (.ref fa)) (h17 : ∃ (fa : Addr) (fd : FuncData), Fun K "_law_sum_deep" "_law_sum_deep" (top 30) fa fd ∧ mg "_law_sum_deep" = some (.ref fa)) (h18 : ∃ (fa : Addr) (fd : FuncData), Fun K "_law_is_sum" "_law_is_sum" (top 31) fa fd ∧ mg "_law_is_sum" = some (.ref fa)) (h19 : ∃ (fa : Addr) (fd : FuncData), Fun K "_law_counted" "_law_counted" (top 32) fa fd ∧ mg "_law_counted" = some (.ref fa)) (h20 : ∃ (fa : Addr) (fd : FuncData), Fun K "_law_is_program" "_law_is_program" (top 33) fa fd ∧ mg "_law_is_program" = some (.ref fa)) (h21 : ∃ (fa : Addr) (fd : FuncData), Fun K "_law_things" "_law_things" (top 34) fa fd ∧ mg "_law_things" = some (.ref fa)) (h22 : ∃ (fa : Addr) (fd : FuncData), Fun K "_law_bent" "_law_bent" (top 35) fa fd ∧ mg "_law_bent" = some (.ref fa)) (h23 : ∃ (fa : Addr) (fd : FuncData), Fun K "law" "law" (top 36) fa fd ∧ mg "law" = some (.ref fa))
    (g0 : ∃ (u : Value) (v : V), mg "LETTERS" = some u ∧ RelV v u ∧ ∀ G μ, RD K G μ (.str "abcdefghijklmnopqrstuvwxyz") v) (g1 : ∃ (u : Value) (v : V), mg "MOST_LETTERS" = some u ∧ RelV v u ∧ ∀ G μ, RD K G μ (.int 4) v) (g2 : ∃ (u : Value) (v : V), mg "KEPT_WORDS" = some u ∧ RelV v u ∧ ∀ G μ, RD K G μ (.tup [(.str "get"), (.str "put"), (.str "let"), (.str "if"), (.str "else"), (.str "fi"), (.str "end"), (.str "drop")]) v) (g3 : ∃ (u : Value) (v : V), mg "VALUES" = some u ∧ RelV v u ∧ ∀ G μ, RD K G μ (.int 1000) v) (g4 : ∃ (u : Value) (v : V), mg "SIGNS" = some u ∧ RelV v u ∧ ∀ G μ, RD K G μ (.tup [(.str "+"), (.str "-"), (.str "*"), (.str "<"), (.str "=")]) v) (g5 : ∃ (u : Value) (v : V), mg "DEEPEST" = some u ∧ RelV v u ∧ ∀ G μ, RD K G μ (.int 4) v) (g6 : ∃ (u : Value) (v : V), mg "MOST_IFS" = some u ∧ RelV v u ∧ ∀ G μ, RD K G μ (.int 3) v) (g7 : ∃ (u : Value) (v : V), mg "LAST_ONES" = some u ∧ RelV v u ∧ ∀ G μ, RD K G μ (.tup [(.tup [(.str "end")]), (.tup [(.str "drop")])]) v) (g8 : ∃ (u : Value) (v : V), mg "MOST_ASKED" = some u ∧ RelV v u ∧ ∀ G μ, RD K G μ (.int 8) v) (g9 : ∃ (u : Value) (v : V), mg "MOST_LINES" = some u ∧ RelV v u ∧ ∀ G μ, RD K G μ (.int 16) v)
    (z0 : mg (Str.ofString "len") = none) (z1 : mg (Str.ofString "all") = none) (z2 : mg (Str.ofString "any") = none) (z3 : mg (Str.ofString "abs") = none) (z4 : mg (Str.ofString "int") = none) (z5 : mg (Str.ofString "str") = none) (z6 : mg (Str.ofString "tuple") = none) (z7 : mg (Str.ofString "list") = none) (z8 : mg (Str.ofString "max") = none) (z9 : mg (Str.ofString "min") = none) (z10 : mg (Str.ofString "sum") = none) (z11 : mg (Str.ofString "bool") = none) (z12 : mg (Str.ofString "dict") = none) (z13 : mg (Str.ofString "range") = none) (z14 : mg (Str.ofString "enumerate") = none) (z15 : mg (Str.ofString "isinstance") = none) : TopOk K mg tab gt := by
  refine ⟨fun f d hd => ?_, fun i nm dv hd => ?_, fun x hx => ?_⟩
  · match f, hd with
    | 0, hd =>
      have e : some d0 = some d := hd
      cases e
      obtain ⟨fa, fd, F, m⟩ := h0
      exact ⟨fa, fd, F, m, bd0 F⟩
    | 1, hd =>
      have e : some d1 = some d := hd
      cases e
      obtain ⟨fa, fd, F, m⟩ := h1
      exact ⟨fa, fd, F, m, bd1 F⟩
    | 2, hd =>
      have e : some d2 = some d := hd
      cases e
      obtain ⟨fa, fd, F, m⟩ := h2
      exact ⟨fa, fd, F, m, bd2 F⟩
    | 3, hd =>
      have e : some d3 = some d := hd
      cases e
      obtain ⟨fa, fd, F, m⟩ := h3
      exact ⟨fa, fd, F, m, bd3 F⟩
    | 4, hd =>
      have e : some d4 = some d := hd
      cases e
      obtain ⟨fa, fd, F, m⟩ := h4
      exact ⟨fa, fd, F, m, bd4 F⟩
    | 5, hd =>
      have e : some d5 = some d := hd
      cases e
      obtain ⟨fa, fd, F, m⟩ := h5
      exact ⟨fa, fd, F, m, bd5 F⟩
    | 6, hd =>
      have e : some d6 = some d := hd
      cases e
      obtain ⟨fa, fd, F, m⟩ := h6
      exact ⟨fa, fd, F, m, bd6 F⟩
    | 7, hd =>
      have e : some d7 = some d := hd
      cases e
      obtain ⟨fa, fd, F, m⟩ := h7
      exact ⟨fa, fd, F, m, bd7 F⟩
    | 8, hd =>
      have e : some d8 = some d := hd
      cases e
      obtain ⟨fa, fd, F, m⟩ := h8
      exact ⟨fa, fd, F, m, bd8 F⟩
    | 9, hd =>
      have e : some d9 = some d := hd
      cases e
      obtain ⟨fa, fd, F, m⟩ := h9
      exact ⟨fa, fd, F, m, bd9 F⟩
    | 10, hd =>
      have e : some d10 = some d := hd
      cases e
      obtain ⟨fa, fd, F, m⟩ := h10
      exact ⟨fa, fd, F, m, bd10 F⟩
    | 11, hd =>
      have e : some d11 = some d := hd
      cases e
      obtain ⟨fa, fd, F, m⟩ := h11
      exact ⟨fa, fd, F, m, bd11 F⟩
    | 12, hd =>
      have e : some d12 = some d := hd
      cases e
      obtain ⟨fa, fd, F, m⟩ := h12
      exact ⟨fa, fd, F, m, bd12 F⟩
    | 13, hd =>
      have e : some d13 = some d := hd
      cases e
      obtain ⟨fa, fd, F, m⟩ := h13
      exact ⟨fa, fd, F, m, bd13 F⟩
    | 14, hd =>
      have e : some d14 = some d := hd
      cases e
      obtain ⟨fa, fd, F, m⟩ := h14
      exact ⟨fa, fd, F, m, bd14 F⟩
    | 15, hd =>
      have e : some d15 = some d := hd
      cases e
      obtain ⟨fa, fd, F, m⟩ := h15
      exact ⟨fa, fd, F, m, bd15 F⟩
    | 16, hd =>
      have e : some d16 = some d := hd
      cases e
      obtain ⟨fa, fd, F, m⟩ := h16
      exact ⟨fa, fd, F, m, bd16 F⟩
    | 17, hd =>
      have e : some d17 = some d := hd
      cases e
      obtain ⟨fa, fd, F, m⟩ := h17
      exact ⟨fa, fd, F, m, bd17 F⟩
    | 18, hd =>
      have e : some d18 = some d := hd
      cases e
      obtain ⟨fa, fd, F, m⟩ := h18
      exact ⟨fa, fd, F, m, bd18 F⟩
    | 19, hd =>
      have e : some d19 = some d := hd
      cases e
      obtain ⟨fa, fd, F, m⟩ := h19
      exact ⟨fa, fd, F, m, bd19 F⟩
    | 20, hd =>
      have e : some d20 = some d := hd
      cases e
      obtain ⟨fa, fd, F, m⟩ := h20
      exact ⟨fa, fd, F, m, bd20 F⟩
    | 21, hd =>
      have e : some d21 = some d := hd
      cases e
      obtain ⟨fa, fd, F, m⟩ := h21
      exact ⟨fa, fd, F, m, bd21 F⟩
    | 22, hd =>
      have e : some d22 = some d := hd
      cases e
      obtain ⟨fa, fd, F, m⟩ := h22
      exact ⟨fa, fd, F, m, bd22 F⟩
    | 23, hd =>
      have e : some d23 = some d := hd
      cases e
      obtain ⟨fa, fd, F, m⟩ := h23
      exact ⟨fa, fd, F, m, bd23 F⟩
    | n + 24, hd =>
      have e : (none : Option FD) = some d := hd
      cases e
  · match i, hd with
    | 0, hd =>
      have e : some (("LETTERS", (.str "abcdefghijklmnopqrstuvwxyz")) : Str × D) = some (nm, dv) := hd
      cases e
      exact g0
    | 1, hd =>
      have e : some (("MOST_LETTERS", (.int 4)) : Str × D) = some (nm, dv) := hd
      cases e
      exact g1
    | 2, hd =>
      have e : some (("KEPT_WORDS", (.tup [(.str "get"), (.str "put"), (.str "let"), (.str "if"), (.str "else"), (.str "fi"), (.str "end"), (.str "drop")])) : Str × D) = some (nm, dv) := hd
      cases e
      exact g2
    | 3, hd =>
      have e : some (("VALUES", (.int 1000)) : Str × D) = some (nm, dv) := hd
      cases e
      exact g3
    | 4, hd =>
      have e : some (("SIGNS", (.tup [(.str "+"), (.str "-"), (.str "*"), (.str "<"), (.str "=")])) : Str × D) = some (nm, dv) := hd
      cases e
      exact g4
    | 5, hd =>
      have e : some (("DEEPEST", (.int 4)) : Str × D) = some (nm, dv) := hd
      cases e
      exact g5
    | 6, hd =>
      have e : some (("MOST_IFS", (.int 3)) : Str × D) = some (nm, dv) := hd
      cases e
      exact g6
    | 7, hd =>
      have e : some (("LAST_ONES", (.tup [(.tup [(.str "end")]), (.tup [(.str "drop")])])) : Str × D) = some (nm, dv) := hd
      cases e
      exact g7
    | 8, hd =>
      have e : some (("MOST_ASKED", (.int 8)) : Str × D) = some (nm, dv) := hd
      cases e
      exact g8
    | 9, hd =>
      have e : some (("MOST_LINES", (.int 16)) : Str × D) = some (nm, dv) := hd
      cases e
      exact g9
    | n + 10, hd =>
      have e : (none : Option (Str × D)) = some (nm, dv) := hd
      cases e
  · simp only [bltNames, List.mem_cons, List.not_mem_nil, or_false] at hx
    rcases hx with rfl | rfl | rfl | rfl | rfl | rfl | rfl | rfl | rfl | rfl | rfl | rfl | rfl | rfl | rfl | rfl <;> assumption
theorem law_bind (K : PySem.W.Frag) (fa : Addr) (fd : FuncData) (F : Fun K d23.nm d23.nm d23.st fa fd) (s : Shared) (u : Value) : BindsTo s fd ⟨[u], []⟩ [("_law_script", u)] := by
  obtain ⟨oc, od, kV, doc, pm, an, cdv, ct, osl, rfl, lk, hcd⟩ := F.ex
  exact .of_eq rfl
end K81
open PySem PySem.W PyProof.Rows in
set_option maxRecDepth 100000 in
set_option maxHeartbeats 0 in
theorem PySem.Challenge.cw_dealcourt_k81_programs_known_holds : PySem.Challenge.rw_dealcourt_k81_programs_known.Holds := by
  w_on; o_law; k_head; (case hw => w_witness2)
  k_fill
  refine DC.law_walk (l := PySem.Challenge.rw_dealcourt_k81_programs_known) (tab := K81.tab) (gt := K81.gt) (n := 63) (f := 23) (d := K81.d23) (x := "_law_script") rfl rfl ⟨rfl, by decide, by decide⟩ (fun w h Y => PySem.W.kIn_of Y) rfl rfl rfl K81.ok ?T K81.law_bind K81.law_true
  case T =>
    intro w mg h KX G
    refine K81.top_mk ?kh0 ?kh1 ?kh2 ?kh3 ?kh4 ?kh5 ?kh6 ?kh7 ?kh8 ?kh9 ?kh10 ?kh11 ?kh12 ?kh13 ?kh14 ?kh15 ?kh16 ?kh17 ?kh18 ?kh19 ?kh20 ?kh21 ?kh22 ?kh23 ?kg0 ?kg1 ?kg2 ?kg3 ?kg4 ?kg5 ?kg6 ?kg7 ?kg8 ?kg9 ?kz0 ?kz1 ?kz2 ?kz3 ?kz4 ?kz5 ?kz6 ?kz7 ?kz8 ?kz9 ?kz10 ?kz11 ?kz12 ?kz13 ?kz14 ?kz15
    (case kh0 => refine' K81.fn_here KX G ?a ?l ?c ?k; (case a => k_is); (case l => k_is); (case c => k_is); (case k => k_is))
    (case kh1 => refine' K81.fn_here KX G ?a ?l ?c ?k; (case a => k_is); (case l => k_is); (case c => k_is); (case k => k_is))
    (case kh2 => refine' K81.fn_here KX G ?a ?l ?c ?k; (case a => k_is); (case l => k_is); (case c => k_is); (case k => k_is))
    (case kh3 => refine' K81.fn_here KX G ?a ?l ?c ?k; (case a => k_is); (case l => k_is); (case c => k_is); (case k => k_is))
    (case kh4 => refine' K81.fn_here KX G ?a ?l ?c ?k; (case a => k_is); (case l => k_is); (case c => k_is); (case k => k_is))
    (case kh5 => refine' K81.fn_here KX G ?a ?l ?c ?k; (case a => k_is); (case l => k_is); (case c => k_is); (case k => k_is))
    (case kh6 => refine' K81.fn_here KX G ?a ?l ?c ?k; (case a => k_is); (case l => k_is); (case c => k_is); (case k => k_is))
    (case kh7 => refine' K81.fn_here KX G ?a ?l ?c ?k; (case a => k_is); (case l => k_is); (case c => k_is); (case k => k_is))
    (case kh8 => refine' K81.fn_here KX G ?a ?l ?c ?k; (case a => k_is); (case l => k_is); (case c => k_is); (case k => k_is))
    (case kh9 => refine' K81.fn_here KX G ?a ?l ?c ?k; (case a => k_is); (case l => k_is); (case c => k_is); (case k => k_is))
    (case kh10 => refine' K81.fn_here KX G ?a ?l ?c ?k; (case a => k_is); (case l => k_is); (case c => k_is); (case k => k_is))
    (case kh11 => refine' K81.fn_here KX G ?a ?l ?c ?k; (case a => k_is); (case l => k_is); (case c => k_is); (case k => k_is))
    (case kh12 => refine' K81.fn_here KX G ?a ?l ?c ?k; (case a => k_is); (case l => k_is); (case c => k_is); (case k => k_is))
    (case kh13 => refine' K81.fn_here KX G ?a ?l ?c ?k; (case a => k_is); (case l => k_is); (case c => k_is); (case k => k_is))
    (case kh14 => refine' K81.fn_here KX G ?a ?l ?c ?k; (case a => k_is); (case l => k_is); (case c => k_is); (case k => k_is))
    (case kh15 => refine' K81.fn_here KX G ?a ?l ?c ?k; (case a => k_is); (case l => k_is); (case c => k_is); (case k => k_is))
    (case kh16 => refine' K81.fn_here KX G ?a ?l ?c ?k; (case a => k_is); (case l => k_is); (case c => k_is); (case k => k_is))
    (case kh17 => refine' K81.fn_here KX G ?a ?l ?c ?k; (case a => k_is); (case l => k_is); (case c => k_is); (case k => k_is))
    (case kh18 => refine' K81.fn_here KX G ?a ?l ?c ?k; (case a => k_is); (case l => k_is); (case c => k_is); (case k => k_is))
    (case kh19 => refine' K81.fn_here KX G ?a ?l ?c ?k; (case a => k_is); (case l => k_is); (case c => k_is); (case k => k_is))
    (case kh20 => refine' K81.fn_here KX G ?a ?l ?c ?k; (case a => k_is); (case l => k_is); (case c => k_is); (case k => k_is))
    (case kh21 => refine' K81.fn_here KX G ?a ?l ?c ?k; (case a => k_is); (case l => k_is); (case c => k_is); (case k => k_is))
    (case kh22 => refine' K81.fn_here KX G ?a ?l ?c ?k; (case a => k_is); (case l => k_is); (case c => k_is); (case k => k_is))
    (case kh23 => refine' K81.fn_here KX G ?a ?l ?c ?k; (case a => k_is); (case l => k_is); (case c => k_is); (case k => k_is))
    (case kg0 => refine' K81.gl0 KX G ?a ; (case a => k_is))
    (case kg1 => refine' K81.gl1 KX G ?a ; (case a => k_is))
    (case kg2 => refine' K81.gl2 KX G ?a ?l0; (case a => k_is); (case l0 => k_is))
    (case kg3 => refine' K81.gl3 KX G ?a ; (case a => k_is))
    (case kg4 => refine' K81.gl4 KX G ?a ?l0; (case a => k_is); (case l0 => k_is))
    (case kg5 => refine' K81.gl5 KX G ?a ; (case a => k_is))
    (case kg6 => refine' K81.gl6 KX G ?a ; (case a => k_is))
    (case kg7 => refine' K81.gl7 KX G ?a ?l0 ?l1 ?l2; (case a => k_is); (case l0 => k_is); (case l1 => k_is); (case l2 => k_is))
    (case kg8 => refine' K81.gl8 KX G ?a ; (case a => k_is))
    (case kg9 => refine' K81.gl9 KX G ?a ; (case a => k_is))
    (case kz0 => refine' PySem.W.mg_none_of KX G ?z; (case z => k_is))
    (case kz1 => refine' PySem.W.mg_none_of KX G ?z; (case z => k_is))
    (case kz2 => refine' PySem.W.mg_none_of KX G ?z; (case z => k_is))
    (case kz3 => refine' PySem.W.mg_none_of KX G ?z; (case z => k_is))
    (case kz4 => refine' PySem.W.mg_none_of KX G ?z; (case z => k_is))
    (case kz5 => refine' PySem.W.mg_none_of KX G ?z; (case z => k_is))
    (case kz6 => refine' PySem.W.mg_none_of KX G ?z; (case z => k_is))
    (case kz7 => refine' PySem.W.mg_none_of KX G ?z; (case z => k_is))
    (case kz8 => refine' PySem.W.mg_none_of KX G ?z; (case z => k_is))
    (case kz9 => refine' PySem.W.mg_none_of KX G ?z; (case z => k_is))
    (case kz10 => refine' PySem.W.mg_none_of KX G ?z; (case z => k_is))
    (case kz11 => refine' PySem.W.mg_none_of KX G ?z; (case z => k_is))
    (case kz12 => refine' PySem.W.mg_none_of KX G ?z; (case z => k_is))
    (case kz13 => refine' PySem.W.mg_none_of KX G ?z; (case z => k_is))
    (case kz14 => refine' PySem.W.mg_none_of KX G ?z; (case z => k_is))
    (case kz15 => refine' PySem.W.mg_none_of KX G ?z; (case z => k_is))

