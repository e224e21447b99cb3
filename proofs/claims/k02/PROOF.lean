import PyProof.Rows.All
import HandS.Base
import PyProof.SliceList
import KE.LtData
import Wide.All
import OpenK.AllK
import Wide.FinOn
import HandS.ForMost
import HandS.ForExc
import HandS.Dict
import HandS.TupAny
import HandS.TupMul
import HandS.Wide
import HandS.Style
import HandS.IsInst
import HandS.Zip
import HandS.Lambda
import HandS.TryMany
import HandS.EndTab
import KE.KDictPairs
import HandS.RaiseMore
import KE.GoesZip
import KE.GoesMore
import KE.KDictZip
import HandS.ListItems
import HandS.ExcInit
import HandS.ExcField
import KE.KExcSuper
import HandS.Text
import HandS.StrMore
import KE.IntTextLaws
import PyProof.StrLawsIn
import PyProof.NeData
import PyProof.P3Eq
import KE.DataMinMax
import HandS.More
import HandS.CallSlots
import HandS.Head0
import HandS.Head1
import HandS.Head2
import HandS.HeadEnd
import HandS.HeadHook1
import HandS.HeadHook3
import HandS.HeadWalk
import PyProof.ExcBaseAll.ValueError
import PySem.Challenge.RW_restartlisp_k02_whole_texts_that_are_ref
import HandS.HeadHook2
set_option linter.all false
set_option autoImplicit false
/-! G1: values by content, a store, the small language, its evaluator. -/
namespace G
open PySem

/-- values by content; htup: a tuple that is known to have no dict of its own; ref: a list of the store; scr: the law's argument; ty: a built-in class; fn: a def of the program; cls: a class of errors -/
inductive W where
  | non | bl (b : Bool) | int (i : Int) | str (l : List Nat)
  | tup (xs : List W) | htup (xs : List W) | lst (xs : List W) | dct (ks : List (List Nat)) (vs : List W)
  | ref (n : Nat) | scr (ns : List Int) | ty (s : String) | fn (n : Nat)
  deriving Inhabited

abbrev ST := List (List W)

inductive R (α : Type) where
  | ok (a : α) (s : ST)
  | exc (c : Nat) (l : List W) (s : ST)
  | err

abbrev M (α : Type) := ST → R α
def ret {α : Type} (a : α) : M α := fun s => .ok a s
def fail {α : Type} : M α := fun _ => .err
def bnd {α β : Type} (m : M α) (f : α → M β) : M β := fun s => match m s with
  | .ok a s' => f a s'
  | .exc c l s' => .exc c l s'
  | .err => .err
def opt {α : Type} : Option α → M α
  | some a => ret a
  | none => fail
/-- read the store -/
def rd {α : Type} (f : ST → Option α) : M α := fun s => match f s with
  | some a => .ok a s
  | none => .err

inductive Bop where | add | sub | mul | fdiv | mod | pow
  deriving DecidableEq
inductive Cop where | eq | ne | lt | le | gt | ge | is | isnot | isin | notin
  deriving DecidableEq
/-- built-ins; lenset: len(set(x)); mlist: list(x), a list that may change -/
inductive Bi where | len | abs | int | str | list | mlist | tuple | dict | max | min | sum | all | any | sorted | isi | lenset | htuple
  deriving DecidableEq
inductive Me where | append | pop | get | join | index | lstrip
  deriving DecidableEq

/-- targets -/
inductive T where
  | v (i : Nat) | nil | cons (a b : T)
  deriving DecidableEq

/-- expressions; nil, cons: rows of expressions; rng, enum, zip, items: what is walked alone -/
inductive E where
  | var (i : Nat) | k (w : W) | glob (n : Nat) | fnv (n : Nat)
  | bin (op : Bop) (a b : E) | neg (a : E) | cmp (op : Cop) (a b : E) | chain (op op' : Cop) (a b c : E)
  | and (a b : E) | or (a b : E) | not (a : E) | ife (c a b : E)
  | tup (l : E) | htup (l : E) | lst (l : E) | mlst (l : E)
  | ix (a b : E) | sl (a lo hi : E) | slx (a lo hi : E) (st : Int) | no | rev (a : E)
  | call (n : Nat) (l : E) | bi (b : Bi) (l : E) | meth (m : Me) (o l : E)
  | lc (t : T) (it : E) (ifs : E) (e : E) (own : List Nat)
  | lzip (a b : E) | lrng (l : E) | lens (a : E)
  | rng (l : E) | enum (a : E) | zip (a b : E) | itr (a : E)
  | clo (i : Nat) (l : E)
  | dix (n : Nat) (a : E) | din (neg : Bool) (n : Nat) (a : E)
  | nil | cons (a b : E)

inductive S where
  | nil | seq (a b : S)
  | asg (t : T) (e : E) | par2 (i j : Nat) (a b : E) | par3 (i j l : Nat) (a b c : E) | seti (o i e : E)
  | expr (e : E) | rt (e : E) | rtn | ife (c : E) (a b : S)
  | whl (c : E) (b : S) | forr (t : T) (it : E) (b : S)
  | brk | cnt | pass | raise (c : Nat) (l : E) | raiseF (c : Nat) (e : E)

structure Def where
  np : Nat
  nl : Nat
  body : S

abbrev Env := List (Option W)

/-! ### values -/
def line : Nat := 16777216

mutual
def wdep : W → Nat
  | .tup xs => wdeps xs + 1
  | .lst xs => wdeps xs + 1
  | _ => 0
def wdeps : List W → Nat
  | [] => 0
  | x :: xs => max (wdep x) (wdeps xs)
end

/-! == of Python, on what is compared by content -/
mutual
def weq : W → W → Bool
  | .non, .non => true
  | .bl a, .bl b => a == b
  | .bl a, .int j => (if a then 1 else 0) == j
  | .int i, .bl b => i == (if b then 1 else 0)
  | .int i, .int j => i == j
  | .str x, .str y => x == y
  | .lst xs, .lst ys => weqs xs ys
  | .tup xs, .tup ys => weqs xs ys
  | _, _ => false
def weqs : List W → List W → Bool
  | [], [] => true
  | x :: xs, y :: ys => weq x y && weqs xs ys
  | _, _ => false
end

/-- a tuple as any tuple -/
def soft : W → W
  | .htup xs => .tup xs
  | w => w
def isSc : W → Bool
  | .non | .bl _ | .int _ | .str _ => true
  | _ => false
def isSq : W → Bool
  | .lst _ | .tup _ => true
  | _ => false

/-! whether two values may be compared by weq, n deep -/
mutual
def eqOk : Nat → W → W → Bool
  | 0, a, b => (isSc a && (isSc b || isSq b)) || (isSq a && isSc b)
  | n + 1, .lst xs, .lst ys => (xs.length != ys.length) || eqOks n xs ys
  | n + 1, .tup xs, .tup ys => eqOks n xs ys
  | _ + 1, .lst _, b => isSc b || (match b with | .tup _ => true | _ => false)
  | _ + 1, .tup _, b => isSc b || (match b with | .lst _ => true | _ => false)
  | _ + 1, a, b => isSc a && (isSc b || isSq b)
def eqOks : Nat → List W → List W → Bool
  | n, x :: xs, y :: ys => eqOk n x y && eqOks n xs ys
  | _, _, _ => true
end

/-- a list of the store read as what it holds -/
def deref (s : ST) : W → Option W
  | .ref n => match s[n]? with
    | some xs => some (.lst xs)
    | none => none
  | .htup xs => some (.tup xs)
  | w => some w

def wEq (s : ST) (a b : W) : Option Bool :=
  match deref s a, deref s b with
  | some x, some y => if eqOk 64 x y then some (weq x y) else none
  | _, _ => none

/-- the items of a list -/
def seqL (s : ST) : W → Option (List W)
  | .lst xs => some xs
  | .ref n => s[n]?
  | _ => none
/-- the items of a list or a tuple -/
def seqI (s : ST) : W → Option (List W)
  | .lst xs => some xs
  | .tup xs => some xs
  | .htup xs => some xs
  | .ref n => s[n]?
  | _ => none

def intsW : List W → Option (List Int)
  | [] => some []
  | .int i :: r => (intsW r).map (i :: ·)
  | _ => none
def boolsW : List W → Option (List Bool)
  | [] => some []
  | .bl b :: r => (boolsW r).map (b :: ·)
  | _ => none
def strsW : List W → Option (List (List Nat))
  | [] => some []
  | .str l :: r => (strsW r).map (l :: ·)
  | _ => none

/-- the index in a row of n of i, from the end if below 0 -/
def ixOf (i : Int) (n : Nat) : Option Nat := if 0 ≤ i then (if i < n then some i.toNat else none) else if -(n : Int) ≤ i then some (i + n).toNat else none
/-- the bound of a slice -/
def cutIx (n : Nat) (d : Nat) : Option Int → Nat
  | none => d
  | some v => if v < 0 then (v + (n : Int)).toNat else min v.toNat n
def cut {α : Type} (xs : List α) (lo hi : Option Int) : List α :=
  (xs.drop (cutIx xs.length 0 lo)).take (cutIx xs.length xs.length hi - cutIx xs.length 0 lo)

def digits (n : Nat) : List Nat := (Nat.toDigits 10 n).map Char.toNat
def intStr (i : Int) : List Nat := if i < 0 then 45 :: digits i.natAbs else digits i.natAbs

/-- the number that figures are -/
def digsVal (cs : List Nat) : Nat := cs.foldl (fun acc c => acc * 10 + (c - 48)) 0
/-- whether a text stands in another one -/
def infixB (x : List Nat) : List Nat → Bool
  | [] => x.isPrefixOf []
  | c :: y => x.isPrefixOf (c :: y) || infixB x y

def rep {α : Type} : Nat → List α → List α
  | 0, _ => []
  | n + 1, xs => xs ++ rep n xs

def big : Int := 2 ^ 64
def binop (op : Bop) (a b : W) (s : ST) : Option W :=
  match op, a, b with
  | .add, .int i, .int j => some (.int (i + j))
  | .add, .str x, .str y => if x.length + y.length ≤ line then some (.str (x ++ y)) else none
  | .add, .tup xs, .tup ys => if xs.length + ys.length ≤ line then some (.tup (xs ++ ys)) else none
  | .add, a, b => match seqL s a, seqL s b with
    | some xs, some ys => if xs.length + ys.length ≤ line then some (.lst (xs ++ ys)) else none
    | _, _ => none
  | .sub, .int i, .int j => some (.int (i - j))
  | .mul, .int i, .int j => if (-big < i ∧ i < big) ∨ (-big < j ∧ j < big) then some (.int (i * j)) else none
  | .fdiv, .int i, .int j => if 0 < j ∧ j < big then some (.int (i / j)) else none
  | .mod, .int i, .int j => if 0 < j then some (.int (i % j)) else none
  | .pow, .int i, .int j => if 0 ≤ j ∧ j ≤ 1000000 ∧ -big < i ∧ i < big then some (.int (i ^ j.toNat)) else none
  | .mul, .tup xs, .int k => if 2 ≤ k ∧ k ≤ 1000 ∧ 0 < xs.length ∧ xs.length ≤ 1000 then some (.tup (rep k.toNat xs)) else none
  | .mul, .lst xs, .int k => if 0 ≤ k ∧ k < 10000 ∧ xs.length * k.toNat ≤ line then some (.lst (rep k.toNat xs)) else none
  | .mul, .str xs, .int k => if 0 ≤ k ∧ k < 10000 ∧ xs.length * k.toNat ≤ line then some (.str (rep k.toNat xs)) else none
  | _, _, _ => none

/-- lexicographic order of texts -/
def slt : List Nat → List Nat → Bool
  | _, [] => false
  | [], _ :: _ => true
  | x :: xs, y :: ys => if x < y then true else if y < x then false else slt xs ys

def memOk : W → List W → Bool
  | x, ys => ys.all fun y => eqOk 63 y x
def cmpop (op : Cop) (a b : W) (s : ST) : Option Bool :=
  match op with
  | .eq => wEq s a b
  | .ne => (wEq s a b).map (!·)
  | .lt => match a, b with
    | .int i, .int j => some (decide (i < j))
    | .str x, .str y => some (slt x y)
    | _, _ => none
  | .le => match a, b with
    | .int i, .int j => some (decide (i ≤ j))
    | .str x, .str y => some (!slt y x)
    | _, _ => none
  | .gt => match a, b with
    | .int i, .int j => some (decide (j < i))
    | .str x, .str y => some (slt y x)
    | _, _ => none
  | .ge => match a, b with
    | .int i, .int j => some (decide (j ≤ i))
    | .str x, .str y => some (!slt x y)
    | _, _ => none
  | .is => match b with
    | .non => some (match a with | .non => true | _ => false)
    | .bl k => match a with | .bl j => some (j == k) | _ => none
    | _ => none
  | .isnot => match b with
    | .non => some (match a with | .non => false | _ => true)
    | .bl k => match a with | .bl j => some (!(j == k)) | _ => none
    | _ => none
  | .isin => match a, b with
    | .str [c], .str y => some (decide (c ∈ y))
    | .str x, .str y => some (infixB x y)
    | a, b => match seqI s b with
      | some ys => if memOk a ys then some (ys.any fun y => weq y a) else none
      | none => none
  | .notin => match a, b with
    | .str [c], .str y => some (!decide (c ∈ y))
    | .str x, .str y => some (!infixB x y)
    | a, b => match seqI s b with
      | some ys => if memOk a ys then some (!ys.any fun y => weq y a) else none
      | none => none

/-- a look-up of a dict with texts as keys -/
def look (k : List Nat) : List (List Nat) → List W → Option W
  | a :: ks, v :: vs => if a = k then some v else look k ks vs
  | _, _ => none
def item (a b : W) (s : ST) : Option W :=
  match a, b with
  | .str x, .int i => if x.length ≤ line then ((ixOf i x.length).bind fun j => x[j]?).map fun c => .str [c] else none
  | .dct ks vs, .str k => look k ks vs
  | a, .int i => (seqI s a).bind fun xs => (ixOf i xs.length).bind fun j => xs[j]?
  | _, _ => none
def slice (a : W) (lo hi : Option Int) (s : ST) : Option W :=
  match a with
  | .str x => if x.length ≤ line then some (.str (cut x lo hi)) else none
  | .tup xs => some (.tup (cut xs lo hi))
  | a => (seqL s a).map fun xs => .lst (cut xs lo hi)

def lmax : List Int → Option Int
  | [] => none
  | x :: xs => some (xs.foldl (fun a b => if a < b then b else a) x)
def lmin : List Int → Option Int
  | [] => none
  | x :: xs => some (xs.foldl (fun a b => if b < a then b else a) x)
def sins (x : List Nat) : List (List Nat) → List (List Nat)
  | [] => [x]
  | y :: ys => if slt y x then y :: sins x ys else x :: y :: ys
def ssort : List (List Nat) → List (List Nat)
  | [] => []
  | x :: xs => sins x (ssort xs)
/-- the pairs of a dict -/
def pairsOf : List W → Option (List (List Nat × W))
  | [] => some []
  | .tup [.str k, v] :: r => (pairsOf r).map ((k, v) :: ·)
  | .htup [.str k, v] :: r => (pairsOf r).map ((k, v) :: ·)
  | _ => none
/-- pairs (int, text) -/
def ispairs : List W → Option (List (Int × List Nat))
  | [] => some []
  | .tup [.int i, .str k] :: r => (ispairs r).map ((i, k) :: ·)
  | _ => none
def plt (a b : Int × List Nat) : Bool := if a.1 < b.1 then true else if b.1 < a.1 then false else slt a.2 b.2
def pmax : List (Int × List Nat) → Option (Int × List Nat)
  | [] => none
  | x :: xs => some (xs.foldl (fun a b => if plt a b then b else a) x)
def putS (k : List Nat) (v : W) (l : List (List Nat × W)) : List (List Nat × W) :=
  if (l.any fun p => decide (p.1 = k)) = true then l.map (fun p => if p.1 = k then (p.1, v) else p) else l ++ [(k, v)]
def dictOf (ps : List (List Nat × W)) : List (List Nat × W) := ps.foldl (fun d p => putS p.1 p.2 d) []

/-- how many unlike texts a row brings to those seen -/
def unl (seen : List (List Nat)) : List (List Nat) → Nat
  | [] => 0
  | k :: ks => (if k ∈ seen then 0 else 1) + unl (seen ++ [k]) ks
def nodupS : List (List Nat) → Nat
  | [] => 0
  | x :: xs => if x ∈ xs then nodupS xs else nodupS xs + 1

def isTy (w : W) (t : String) : Option Bool :=
  match t with
  | "int" => match w with | .non => some false | .bl _ => some true | .int _ => some true | .str _ => some false | .tup _ => some false | .htup _ => some false | .lst _ => some false | .ref _ => some false | _ => none
  | "bool" => match w with | .non => some false | .bl _ => some true | .int _ => some false | .str _ => some false | .tup _ => some false | .htup _ => some false | .lst _ => some false | .ref _ => some false | _ => none
  | "str" => match w with | .non => some false | .bl _ => some false | .int _ => some false | .str _ => some true | .tup _ => some false | .htup _ => some false | .lst _ => some false | .ref _ => some false | _ => none
  | "tuple" => match w with | .non => some false | .bl _ => some false | .int _ => some false | .str _ => some false | .tup _ => some true | .htup _ => some true | .lst _ => some false | .ref _ => some false | _ => none
  | "list" => match w with | .non => some false | .bl _ => some false | .int _ => some false | .str _ => some false | .tup _ => some false | .htup _ => some false | .lst _ => some true | .ref _ => some true | _ => none
  | _ => none

def bLen (s : ST) : List W → Option W
  | [.str x] => if x.length ≤ line then some (.int x.length) else none
  | [a] => (seqI s a).map fun xs => .int xs.length
  | _ => none
def bAbs : List W → Option W
  | [.int i] => some (.int (if i < 0 then -i else i))
  | _ => none
def bInt : List W → Option W
  | [.int i] => some (.int i)
  | [.bl k] => some (.int (if k then 1 else 0))
  | [.str l] => if l ≠ [] ∧ (l.all fun c => decide (48 ≤ c) && decide (c ≤ 57)) = true ∧ l.length ≤ 640 then some (.int (digsVal l)) else none
  | _ => none
def bList (s : ST) : List W → Option W
  | [.scr ns] => some (.lst (ns.map .int))
  | [a] => (seqI s a).map .lst
  | _ => none
def bTuple (s : ST) : List W → Option W
  | [.htup xs] => some (.htup xs)
  | [a] => (seqI s a).map .tup
  | _ => none
def bHtuple (s : ST) : List W → Option W
  | [a] => (seqL s a).map .htup
  | _ => none
def bStr : List W → Option W
  | [.int i] => if -big < i ∧ i < big then some (.str (intStr i)) else none
  | [.str l] => some (.str l)
  | _ => none
def bSorted (s : ST) : List W → Option W
  | [a] => (seqL s a).bind fun xs => (strsW xs).bind fun ns => if ns.length < 64 then some (.lst ((ssort ns).map .str)) else none
  | _ => none
def bUnl (s : ST) : List W → Option W
  | [a] => (seqI s a).bind fun xs => (strsW xs).bind fun ns => if ns.length < 4000 then some (.int (unl [] ns)) else none
  | _ => none
def dctOf (ps : List (List Nat × W)) : W := .dct ((dictOf ps).map (·.1)) ((dictOf ps).map (·.2))
def bDict (s : ST) : List W → Option W
  | [.htup xs] => (pairsOf xs).map dctOf
  | [a] => (seqL s a).bind fun xs => (pairsOf xs).map dctOf
  | _ => none
/-- a row cut with a step -/
def cutX {α : Type} (xs : List α) (lo hi : Option Int) (st : Int) : List α :=
  (sliceRange (sliceBounds lo hi (some st) xs.length).1 (sliceBounds lo hi (some st) xs.length).2.1 (sliceBounds lo hi (some st) xs.length).2.2).filterMap (xs[·]?)
def bInts (s : ST) (f : List Int → Option Int) : List W → Option W
  | [a] => (seqL s a).bind fun xs => (intsW xs).bind fun ns => (f ns).map .int
  | _ => none
mutual
/-- as data that have an order -/
def toD : W → Option PyData
  | .bl b => some (.bool b)
  | .int i => some (.int i)
  | .str l => some (.str ⟨l.toArray⟩)
  | .tup xs => (toDs xs).map .tuple
  | _ => none
def toDs : List W → Option (List PyData)
  | [] => some []
  | x :: xs => (toD x).bind fun d => (toDs xs).map (d :: ·)
end
def bestW (up : Bool) (x : W) (r : List W) : W := r.foldl (fun a y => match toD a, toD y with
  | some d, some e => if (if up then PySem.W.dataLt d e else PySem.W.dataLt e d) then y else a
  | _, _ => a) x
def bDat (s : ST) (up : Bool) : List W → Option W
  | [a] => (seqL s a).bind fun xs => match xs with
    | [] => none
    | x :: r => (toDs (x :: r)).bind fun ds => if (ds.all fun a => ds.all fun b => PySem.W.alike a b) = true ∧ PyData.depthAll ds ≤ 20 then some (bestW up x r) else none
  | _ => none
/-- max, min: of two ints; of a list of ints, of data -/
def bTwo (s : ST) (g : Int → Int → Int) (f : List Int → Option Int) (up : Bool) : List W → Option W
  | [.int i, .int j] => some (.int (g i j))
  | l => match bInts s f l with
    | some w => some w
    | none => bDat s up l
def bBools (s : ST) (f : List Bool → Bool) : List W → Option W
  | [a] => (seqL s a).bind fun xs => (boolsW xs).map fun bs => .bl (f bs)
  | _ => none
def bIsi : List W → Option W
  | [a, .ty t] => (isTy a t).map .bl
  | _ => none
def biop (b : Bi) (l : List W) (s : ST) : Option W :=
  match b with
  | .len => bLen s l
  | .abs => bAbs l
  | .int => bInt l
  | .list => bList s l
  | .tuple => bTuple s l
  | .max => bTwo s (fun i j => if j > i then j else i) lmax true l
  | .min => bTwo s (fun i j => if j < i then j else i) lmin false l
  | .sum => bInts s (fun ns => some ns.sum) l
  | .all => bBools s (fun bs => bs.all id) l
  | .any => bBools s (fun bs => bs.any id) l
  | .isi => bIsi l
  | .htuple => bHtuple s l
  | .str => bStr l
  | .sorted => bSorted s l
  | .lenset => bUnl s l
  | .dict => bDict s l
  | _ => none

/-- methods: of a list of the store; of a text -/
def mApp (n : Nat) (w : W) : M W := fun s => match s[n]? with
  | some ys => if ys.length < line then .ok .non (s.set n (ys ++ [w])) else .err
  | none => .err
def mPop (n : Nat) (i : Int) : M W := fun s => match s[n]? with
  | some ys => match ixOf i ys.length with
    | some j => match ys[j]? with
      | some y => if -1000000 < i ∧ i < 1000000 then .ok y (s.set n (ys.eraseIdx j)) else .err
      | none => .err
    | none => .err
  | none => .err
def meL (m : Me) (n : Nat) (l : List W) : M W :=
  match m, l with
  | .append, [w] => mApp n w
  | .pop, [.int i] => mPop n i
  | _, _ => fail
def Me.isL : Me → Bool
  | .append => true
  | .pop => true
  | _ => false
def joinS (a : List Nat) : List (List Nat) → List Nat
  | [] => []
  | [p] => p
  | p :: q :: r => p ++ (a ++ joinS a (q :: r))
def meJoin (a : List Nat) (s : ST) : List W → Option W
  | [b] => (seqI s b).bind fun xs => (strsW xs).bind fun ns => if (ns.map (·.length)).sum + ns.length * a.length ≤ line then some (.str (joinS a ns)) else none
  | _ => none
def meStrip (a : List Nat) : List W → Option W
  | [.str b] => if a.length ≤ line then some (.str (a.dropWhile fun c => decide (c ∈ b))) else none
  | _ => none
def meS (m : Me) (a : List Nat) (l : List W) : M W :=
  match m with
  | .join => rd fun s => meJoin a s l
  | .lstrip => rd fun _ => meStrip a l
  | _ => fail

/-! ### targets -/
mutual
def asg : T → W → Env → Option Env
  | .v i, w, env => if i < env.length then some (env.set i (some w)) else none
  | .nil, .tup [], env => some env
  | .cons a b, .tup (w :: ws), env => (asg a w env).bind fun env' => asgs b ws env'
  | .nil, .htup [], env => some env
  | .cons a b, .htup (w :: ws), env => (asg a w env).bind fun env' => asgs b ws env'
  | _, _, _ => none
def asgs : T → List W → Env → Option Env
  | .nil, [], env => some env
  | .cons a b, w :: ws, env => (asg a w env).bind fun env' => asgs b ws env'
  | _, _, _ => none
end
def wipes (env : Env) : List Nat → Env
  | [] => env
  | i :: is => (wipes env is).set i none

/-- what is walked: rows, or a list of the store as it stands at each turn (liveE: with its index) -/
inductive Src where
  | row (xs : List W)
  | live (n : Nat)
  | liveE (n : Nat)

def enumW : Nat → List W → List W
  | _, [] => []
  | i, x :: xs => .tup [.int i, x] :: enumW (i + 1) xs
def zipW : List W → List W → List W
  | x :: xs, y :: ys => .tup [x, y] :: zipW xs ys
  | _, _ => []
def rngW (lo : Int) : Nat → List W
  | 0 => []
  | n + 1 => .int lo :: rngW (lo + 1) n
def small : Int := 1000000000
def rngOf : List W → Option (List W)
  | [.int j] => if -small < j ∧ j < small then some (rngW 0 j.toNat) else none
  | [.int i, .int j] => if -small < i ∧ i < small ∧ -small < j ∧ j < small then some (rngW i (j - i).toNat) else none
  | _ => none
def srcOf : W → Option Src
  | .lst xs => some (.row xs)
  | .tup xs => some (.row xs)
  | .str l => some (.row (l.map fun c => .str [c]))
  | .ref n => some (.live n)
  | _ => none
def srcEnum : W → Option Src
  | .lst xs => some (.row (enumW 0 xs))
  | .ref n => some (.liveE n)
  | _ => none
def srcZip (s : ST) : W → W → Option Src
  | .lst xs, .lst ys => some (.row (zipW xs ys))
  | .tup xs, .tup ys => some (.row (zipW xs ys))
  | _, _ => none
/-- the item of turn i; none: it stops -/
def liveAt (n i : Nat) (s : ST) : Option (Option W) :=
  match s[n]? with
  | some xs => some xs[i]?
  | none => none

def ocons : Option W → List W → List W
  | some y, ys => y :: ys
  | none, ys => ys
/-- a comprehension's rounds -/
def comp (f : W → M (Option W)) : List W → M (List W)
  | [] => ret []
  | x :: xs => bnd (f x) fun o => bnd (comp f xs) fun ys => ret (ocons o ys)
def compL (g : Nat → W → W) (f : W → M (Option W)) (n : Nat) : Nat → Nat → M (List W)
  | 0, _ => fail
  | k + 1, i => bnd (rd (liveAt n i)) fun o => match o with
    | none => ret []
    | some x => bnd (f (g i x)) fun o => bnd (compL g f n k (i + 1)) fun ys => ret (ocons o ys)
def compS (f : W → M (Option W)) (fuel : Nat) : Src → M (List W)
  | .row xs => comp f xs
  | .live n => compL (fun _ x => x) f n fuel 0
  | .liveE n => compL (fun i x => .tup [.int i, x]) f n fuel 0
/-- no error leaves a comprehension -/
def noexc {α : Type} (m : M α) : M α := fun s => match m s with
  | .ok a s' => .ok a s'
  | _ => .err
def fits {α : Type} (m : M (List α)) : M (List α) := bnd m fun xs => if xs.length ≤ line then ret xs else fail

/-- what a teller tells of an error: a text; a text and the kept int; what is kept -/
inductive Tl where
  | txt (l : List Nat) | pre (p : List Nat) | fld
  deriving DecidableEq
def tellT : Tl → List W → Option W
  | .txt t, _ => some (.str t)
  | .pre p, [.int i] => if -big < i ∧ i < big ∧ p.length ≤ 1000 then some (.str (p ++ intStr i)) else none
  | .fld, [w] => some w
  | _, _ => none
/-- what a program has: constants by number; the fuel of its loops -/
structure Pg where
  defs : List Def
  consts : List W
  fuel : Nat
  told : List (List (Option Tl))
  tabs : List (List (List Nat × W))

/-- a look-up of a written dict -/
def lookP (k : List Nat) : List (List Nat × W) → Option W
  | [] => none
  | p :: r => if p.1 = k then some p.2 else lookP k r

/-- a call that tells which error was met: '' if none -/
def tellM (P : Pg) (n : Nat) (m : M W) : M W := fun s => match m s with
  | .ok _ s' => .ok (.str []) s'
  | .exc c l s' => match (P.told[n]?.bind fun r => r[c]?).join with
    | some t => (match tellT t l with
      | some w => .ok w s'
      | none => .err)
    | none => .err
  | .err => .err

section
variable (P : Pg)
mutual
def evE (call : Nat → List W → M W) : E → Env → M W
  | .var i, env => opt (match env[i]? with | some (some w) => some w | _ => none)
  | .k w, _ => ret w
  | .glob n, _ => opt P.consts[n]?
  | .fnv n, _ => ret (.fn n)
  | .bin op a b, env => bnd (evE call a env) fun x => bnd (evE call b env) fun y => rd (binop op (soft x) (soft y))
  | .neg a, env => bnd (evE call a env) fun x => match x with | .int i => ret (.int (-i)) | _ => fail
  | .cmp op a b, env => bnd (evE call a env) fun x => bnd (evE call b env) fun y => bnd (rd (cmpop op (soft x) (soft y))) fun r => ret (.bl r)
  | .chain op op' a b c, env => bnd (evE call a env) fun x => bnd (evE call b env) fun y => bnd (rd (cmpop op (soft x) (soft y))) fun r =>
      if r then bnd (evE call c env) fun z => bnd (rd (cmpop op' (soft y) (soft z))) fun r' => ret (.bl r') else ret (.bl false)
  | .and a b, env => bnd (evE call a env) fun x => match x with | .bl true => evE call b env | .bl false => ret (.bl false) | _ => fail
  | .or a b, env => bnd (evE call a env) fun x => match x with | .bl true => ret (.bl true) | .bl false => evE call b env | _ => fail
  | .not a, env => bnd (evE call a env) fun x => match x with | .bl r => ret (.bl (!r)) | _ => fail
  | .ife c a b, env => bnd (evE call c env) fun x => match x with | .bl true => evE call a env | .bl false => evE call b env | _ => fail
  | .tup l, env => bnd (fits (evA call l env)) fun xs => ret (.tup xs)
  | .htup l, env => bnd (fits (evA call l env)) fun xs => ret (.htup xs)
  | .lst l, env => bnd (fits (evA call l env)) fun xs => ret (.lst xs)
  | .mlst l, env => bnd (fits (evA call l env)) fun xs => fun s => .ok (.ref s.length) (s ++ [xs])
  | .ix a b, env => bnd (evE call a env) fun x => bnd (evE call b env) fun y => rd (item (soft x) y)
  | .sl a lo hi, env => bnd (evE call a env) fun x => bnd (evO call lo env) fun l => bnd (evO call hi env) fun h => rd (slice (soft x) l h)
  | .slx a lo hi st, env => bnd (evE call a env) fun x => bnd (evO call lo env) fun l => bnd (evO call hi env) fun h => bnd (rd fun s => seqL s x) fun xs => if st = 0 then fail else ret (.lst (cutX xs l h st))
  | .no, _ => ret .non
  | .rev a, env => bnd (evE call a env) fun x => bnd (rd fun s => seqL s x) fun xs => ret (.lst xs.reverse)
  | .call n l, env => bnd (evA call l env) fun xs => call n xs
  | .bi .mlist l, env => bnd (evA call l env) fun xs => bnd (rd (biop .list xs)) fun w => match w with
      | .lst ys => fun s => .ok (.ref s.length) (s ++ [ys])
      | _ => fail
  | .bi b l, env => bnd (evA call l env) fun xs => rd (biop b xs)
  | .meth m o l, env => bnd (evE call o env) fun x => match m.isL, x with
      | true, .ref n => bnd (evA call l env) fun xs => meL m n xs
      | false, .str a => bnd (evA call l env) fun xs => meS m a xs
      | _, _ => fail
  | .lc t it ifs e own, env => bnd (evI call it env) fun src => bnd (noexc (fits (compS (fun w =>
      match asg t w (wipes env own) with
      | some env' => bnd (evB call ifs env') fun r => if r then bnd (evE call e env') fun y => ret (some y) else ret none
      | none => fail) P.fuel src))) fun ys => ret (.lst ys)
  | .lzip a b, env => bnd (evE call a env) fun x => bnd (evE call b env) fun y => match soft x, soft y with
      | .tup xs, .tup ys => ret (.lst (zipW xs ys))
      | _, _ => fail
  | .lens a, env => bnd (evE call a env) fun x => rd (biop .lenset [x])
  | .lrng l, env => bnd (evA call l env) fun xs => bnd (opt (rngOf xs)) fun ys => ret (.lst ys)
  | .dix n a, env => bnd (evE call a env) fun y => match y, P.tabs[n]? with
      | .str k, some ps => opt (lookP k ps)
      | _, _ => fail
  | .din neg n a, env => bnd (evE call a env) fun y => match y, P.tabs[n]? with
      | .str k, some ps => ret (.bl (cond neg (!(lookP k ps).isSome) (lookP k ps).isSome))
      | _, _ => fail
  | .clo n l, env => tellM P n (bnd (call P.defs.length []) fun _ => evE (fun m xs => call (m + (P.defs.length + 1)) xs) l env)
  | _, _ => fail
termination_by structural e => e
def evA (call : Nat → List W → M W) : E → Env → M (List W)
  | .nil, _ => ret []
  | .cons a b, env => bnd (evE call a env) fun x => bnd (evA call b env) fun xs => ret (x :: xs)
  | _, _ => fail
termination_by structural e => e
/-- a bound of a slice -/
def evO (call : Nat → List W → M W) : E → Env → M (Option Int)
  | .no, _ => ret none
  | .itr a, env => bnd (evE call a env) fun x => match x with | .int i => ret (some i) | _ => fail
  | _, _ => fail
termination_by structural e => e
/-- tests one behind the other -/
def evB (call : Nat → List W → M W) : E → Env → M Bool
  | .nil, _ => ret true
  | .cons a b, env => bnd (evE call a env) fun x => match x with | .bl true => evB call b env | .bl false => ret false | _ => fail
  | _, _ => fail
termination_by structural e => e
def evI (call : Nat → List W → M W) : E → Env → M Src
  | .rng l, env => bnd (evA call l env) fun xs => bnd (opt (rngOf xs)) fun ys => ret (.row ys)
  | .enum a, env => bnd (evE call a env) fun x => opt (srcEnum x)
  | .zip a b, env => bnd (evE call a env) fun x => bnd (evE call b env) fun y => rd fun s => srcZip s (soft x) (soft y)
  | .itr a, env => bnd (evE call a env) fun x => opt (srcOf (soft x))
  | _, _ => fail
termination_by structural e => e
end

end

inductive Fl where | nx | rt (w : W) | bk | ct
inductive RS where
  | ok (f : Fl) (env : Env) (s : ST)
  | exc (c : Nat) (l : List W) (env : Env) (s : ST)
  | err
/-- an expression ahead of a statement's rest -/
def eS {α : Type} (m : M α) (env : Env) (f : α → ST → RS) (s : ST) : RS := match m s with
  | .ok a s' => f a s'
  | .exc c l s' => .exc c l env s'
  | .err => .err
def whileS (c : Env → M W) (b : Env → ST → RS) : Nat → Env → ST → RS
  | 0, _, _ => .err
  | n + 1, env, s => eS (c env) env (fun x s' => match x with
    | .bl true => match b env s' with
      | .ok .nx env' s'' => whileS c b n env' s''
      | .ok .ct env' s'' => whileS c b n env' s''
      | .ok .bk env' s'' => .ok .nx env' s''
      | .ok (.rt w) env' s'' => .ok (.rt w) env' s''
      | .exc c l env' s'' => .exc c l env' s''
      | .err => .err
    | .bl false => .ok .nx env s'
    | _ => .err) s
def forS (b : W → Env → ST → RS) : List W → Env → ST → RS
  | [], env, s => .ok .nx env s
  | x :: xs, env, s => match b x env s with
    | .ok .nx env' s' => forS b xs env' s'
    | .ok .ct env' s' => forS b xs env' s'
    | .ok .bk env' s' => .ok .nx env' s'
    | .ok (.rt w) env' s' => .ok (.rt w) env' s'
    | .exc c l env' s' => .exc c l env' s'
    | .err => .err
def forL (g : Nat → W → W) (b : W → Env → ST → RS) (n : Nat) : Nat → Nat → Env → ST → RS
  | 0, _, _, _ => .err
  | k + 1, i, env, s => match liveAt n i s with
    | none => .err
    | some none => .ok .nx env s
    | some (some x) => match b (g i x) env s with
      | .ok .nx env' s' => forL g b n k (i + 1) env' s'
      | .ok .ct env' s' => forL g b n k (i + 1) env' s'
      | .ok .bk env' s' => .ok .nx env' s'
      | .ok (.rt w) env' s' => .ok (.rt w) env' s'
      | .exc c l env' s' => .exc c l env' s'
      | .err => .err
def forA (b : W → Env → ST → RS) (fuel : Nat) : Src → Env → ST → RS
  | .row xs => forS b xs
  | .live n => forL (fun _ x => x) b n fuel 0
  | .liveE n => forL (fun i x => .tup [.int i, x]) b n fuel 0

section
variable (P : Pg) (call : Nat → List W → M W)
def evS : S → Env → ST → RS
  | .nil, env, s => .ok .nx env s
  | .seq a b, env, s => match evS a env s with
    | .ok .nx env' s' => evS b env' s'
    | r => r
  | .asg t e, env, s => eS (evE P call e env) env (fun w s' => match asg t w env with
    | some env' => .ok .nx env' s'
    | none => .err) s
  | .par2 i j a b, env, s => eS (evE P call a env) env (fun x s' => eS (evE P call b env) env (fun y s'' =>
      if i < env.length ∧ j < env.length ∧ i ≠ j then .ok .nx ((env.set i (some x)).set j (some y)) s'' else .err) s') s
  | .par3 i j l a b c, env, s => eS (evE P call a env) env (fun x s' => eS (evE P call b env) env (fun y s'' => eS (evE P call c env) env (fun z s3 =>
      if i < env.length ∧ j < env.length ∧ l < env.length ∧ i ≠ j ∧ i ≠ l ∧ j ≠ l then .ok .nx (((env.set i (some x)).set j (some y)).set l (some z)) s3 else .err) s'') s') s
  | .seti o i e, env, s => eS (evE P call e env) env (fun w s1 => eS (evE P call o env) env (fun x s2 => eS (evE P call i env) env (fun y s3 =>
      match x, y with
      | .ref n, .int k => match s3[n]? with
        | some ys => match ixOf k ys.length with
          | some j => .ok .nx env (s3.set n (ys.set j w))
          | none => .err
        | none => .err
      | _, _ => .err) s2) s1) s
  | .expr e, env, s => eS (evE P call e env) env (fun _ s' => .ok .nx env s') s
  | .rt e, env, s => eS (evE P call e env) env (fun w s' => .ok (.rt w) env s') s
  | .rtn, env, s => .ok (.rt .non) env s
  | .ife c a b, env, s => eS (evE P call c env) env (fun x s' => match x with
    | .bl true => evS a env s'
    | .bl false => evS b env s'
    | _ => .err) s
  | .whl c b, env, s => whileS (fun env => evE P call c env) (fun env s => evS b env s) P.fuel env s
  | .forr t it b, env, s => eS (evI P call it env) env (fun src s' => forA (fun w env s => match asg t w env with
      | some env' => evS b env' s
      | none => .err) P.fuel src env s') s
  | .brk, env, s => .ok .bk env s
  | .cnt, env, s => .ok .ct env s
  | .pass, env, s => .ok .nx env s
  | .raise c l, env, s => eS (evA P call l env) env (fun xs s' => .exc c xs env s') s
  | .raiseF c e, env, s => eS (bnd (call P.defs.length []) fun _ => evE P call e env) env (fun x s' => .exc c [x] env s') s
end

/-- a def's call; the number behind the defs: whether two more calls have room; those behind it: the defs, two calls deeper -/
def callD (P : Pg) : Nat → Nat → List W → M W
  | 0, _, _ => fail
  | d + 1, n, args => fun s => match P.defs[n]? with
    | none => (match d with
      | 0 => .err
      | d' + 1 => if n = P.defs.length then .ok .non s else callD P d' (n - (P.defs.length + 1)) args s)
    | some df => if args.length = df.np then
        match evS P (callD P d) df.body (args.map some ++ List.replicate (df.nl - df.np) none) s with
        | .ok .nx _ s' => .ok .non s'
        | .ok (.rt w) _ s' => .ok w s'
        | .exc c l _ s' => .exc c l s'
        | _ => .err
      else .err
theorem callD_more (P : Pg) (d : Nat) : (fun m xs => callD P (d + 2) (m + (P.defs.length + 1)) xs) = callD P d := by
  funext m xs s
  have h1 : P.defs[m + (P.defs.length + 1)]? = none := List.getElem?_eq_none (by omega)
  rw [callD]
  simp only [h1]
  rw [if_neg (by omega)]
  congr 1
  omega
theorem callD_gate {P : Pg} {d : Nat} {s s' : ST} {w : W} (h : callD P d P.defs.length [] s = .ok w s') : ∃ k, d = k + 2 ∧ s' = s := by
  have h1 : P.defs[P.defs.length]? = none := List.getElem?_eq_none (Nat.le_refl _)
  match d, h with
  | 0, h => cases h
  | 1, h => rw [callD] at h; simp only [h1] at h; cases h
  | k + 2, h =>
    rw [callD] at h
    simp only [h1, if_true, R.ok.injEq] at h
    exact ⟨k, rfl, h.2.symm⟩
theorem callD_gateX {P : Pg} {d : Nat} {s s' : ST} {c : Nat} {l : List W} : callD P d P.defs.length [] s ≠ .exc c l s' := fun h => by
  have h1 : P.defs[P.defs.length]? = none := List.getElem?_eq_none (Nat.le_refl _)
  match d, h with
  | 0, h => cases h
  | 1, h => rw [callD] at h; simp only [h1] at h; cases h
  | k + 2, h =>
    rw [callD] at h
    simp only [h1, if_true] at h
    cases h
end G

set_option Elab.async false
set_option linter.all false
set_option autoImplicit false
set_option maxRecDepth 100000
set_option maxHeartbeats 2000000
/-! G2: what a value of G is in the heap; operators. -/
namespace G
open PySem L2

def strOf (l : List Nat) : Str := ⟨l.toArray⟩
def okS (l : List Nat) : Prop := ∀ c ∈ l, c < 0x110000

/-- what the values are told over: the written part, where defs stand -/
structure Cn where
  K : PySem.W.Frag
  fa : Nat → Option Addr
  ca : Nat → Option Addr
  xi : Addr → Prop
  T : List (Addr × Str)
  /-- the field that a class of errors keeps -/
  xf : Nat → Option Str
/-- an address hidden: no value is told by it -/
def Cn.hide (C : Cn) (D : Addr) : Cn := { C with xi := fun p => C.xi p ∨ p = D }

/-- a list of the written part -/
def KL (K : PySem.W.Frag) (a : Addr) (xs : List V) : Prop := ∃ (o : Obj) (its : Array Value) (n : Nat), K.lookup a = some o ∧ o.cls = .type "list" ∧ o.dict = none ∧ o.data = .seq its n ∧ its.size ≤ sizeLine ∧ Vals xs its.toList
/-- a tuple of the written part -/
def KT (K : PySem.W.Frag) (a : Addr) (xs : List V) : Prop := ∃ (o : Obj) (its : Array Value) (n : Nat), K.lookup a = some o ∧ o.cls = .type "tuple" ∧ o.data = .seq its n ∧ its.size ≤ sizeLine ∧ Vals xs its.toList

section
variable (C : Cn) (ρ : List Addr) (H : Hp)
def Out (p : Addr) : Prop := p ∉ ρ ∧ ¬ C.xi p
def RT (p : Addr) (vs : List V) : Prop := (Out C ρ p ∧ Rd H p (.tup vs)) ∨ KT C.K p vs
mutual
def Rep : W → V → Prop
  | .non, v => v = .non
  | .bl b, v => v = .bl b
  | .int i, v => v = .int i
  | .str l, v => v = .str (strOf l) ∧ okS l
  | .tup xs, v => ∃ p vs, v = .ref p ∧ RT C ρ H p vs ∧ Reps xs vs
  | .htup xs, v => ∃ p vs o, v = .ref p ∧ Out C ρ p ∧ H p = some (.frz o (.tup vs)) ∧ o.dict = none ∧ Reps xs vs
  | .lst xs, v => ∃ p vs, v = .ref p ∧ Out C ρ p ∧ H p = some (.lst vs) ∧ Reps xs vs
  | .dct ks ws, v => ∃ p kvs, v = .ref p ∧ Out C ρ p ∧ H p = some (.dK kvs) ∧ kvs.map (·.1) = ks.map (fun l => Sum.inr (strOf l)) ∧ Reps ws (kvs.map (·.2))
  | .ref n, v => ∃ p, ρ[n]? = some p ∧ v = .ref p
  | .scr ns, v => ∃ p, v = .ref p ∧ ((Out C ρ p ∧ Rd H p (.lst (ns.map V.int))) ∨ KL C.K p (ns.map V.int))
  | .ty s, v => v = .ty s
  | .fn n, v => ∃ f, C.fa n = some f ∧ v = .ref f
def Reps : List W → List V → Prop
  | [], [] => True
  | x :: xs, v :: vs => Rep x v ∧ Reps xs vs
  | _, _ => False
end
/-- the store: each of its lists stands at its own address -/
structure SR (s : ST) : Prop where
  xl : ∀ p, C.xi p → p ∉ ρ ∧ ∃ vs, H p = some (.lst vs)
  tb : LamX.Tabs C.T H
  len : ρ.length = s.length
  nd : ρ.Nodup
  at_ : ∀ (n : Nat) (xs : List W), s[n]? = some xs → ∃ p vs, ρ[n]? = some p ∧ H p = some (.lst vs) ∧ Reps C ρ H xs vs
end

/-- nothing stands there, or a table -/
def Fre (H : Hp) (p : Addr) : Prop := ∀ o, H p = some o → ∃ ps, o = .tbl ps
theorem Fre.of {H : Hp} {p : Addr} (h : H p = none) : Fre H p := fun o e => by rw [h] at e; cases e
theorem Fre.no {H : Hp} {p : Addr} {o : HO} (f : Fre H p) (h : H p = some o) (hn : ∀ ps, o ≠ .tbl ps) : False := by
  obtain ⟨ps, e⟩ := f o h
  exact hn ps e
theorem tabs_new {T : List (Addr × Str)} {H : Hp} {p : Addr} {o : HO} (t : LamX.Tabs T H) (hn : H p = none) : LamX.Tabs T (upd H p o) := t.ext fun b u e => by rw [upd_ne (ne_of_none e hn)]; exact e
theorem tabs_wr {T : List (Addr × Str)} {H : Hp} {p : Addr} {vs xs : List V} (t : LamX.Tabs T H) (hp : H p = some (.lst vs)) : LamX.Tabs T (upd H p (.lst xs)) := fun q hq => by
  obtain ⟨ps, h1, h2, h3⟩ := t q hq
  refine ⟨ps, ?_, h2, fun pos cv hc => ?_⟩
  · rw [upd_ne (fun e => by rw [e, hp] at h1; cases h1)]; exact h1
  · obtain ⟨c, e1, e2⟩ := h3 pos cv hc
    refine ⟨c, e1, ?_⟩
    rw [upd_ne (fun e => by rw [e, hp] at e2; unfold LamX.CodeO at e2; cases e2)]; exact e2
/-- the heap has grown: lists of the store may have changed, all else stands (tables may grow) -/
structure Gr (ρ : List Addr) (H : Hp) (ρ' : List Addr) (H' : Hp) : Prop where
  pre : ∃ more, ρ' = ρ ++ more ∧ ∀ p ∈ more, Fre H p
  keep : ∀ p o, p ∉ ρ → H p = some o → (∀ ps, o ≠ .tbl ps) → H' p = some o
  live : ∀ p, Fre H' p → Fre H p

section
variable {C : Cn} {ρ ρ' ρ'' : List Addr} {H H' H'' : Hp}
theorem Gr.refl : Gr ρ H ρ H := ⟨⟨[], by simp, fun _ h => nomatch h⟩, fun _ _ _ h _ => h, fun _ h => h⟩
theorem Gr.trans (a : Gr ρ H ρ' H') (b : Gr ρ' H' ρ'' H'') : Gr ρ H ρ'' H'' := by
  obtain ⟨⟨m1, e1, f1⟩, k1, l1⟩ := a
  obtain ⟨⟨m2, e2, f2⟩, k2, l2⟩ := b
  refine ⟨⟨m1 ++ m2, by rw [e2, e1, List.append_assoc], fun p hp => ?_⟩, fun p o hp ho hn => ?_, fun p h => l1 p (l2 p h)⟩
  · rcases List.mem_append.mp hp with h | h
    · exact f1 p h
    · exact l1 p (f2 p h)
  · refine k2 p o (fun hm => ?_) (k1 p o hp ho hn) hn
    rw [e1] at hm
    rcases List.mem_append.mp hm with h | h
    · exact hp h
    · exact (f1 p h).no ho hn
theorem Gr.out (g : Gr ρ H ρ' H') {p : Addr} {o : HO} (hp : p ∉ ρ) (ho : H p = some o) (hn : ∀ ps, o ≠ .tbl ps := by intro ps q; cases q) : p ∉ ρ' := fun hm => by
  obtain ⟨m, e, f⟩ := g.pre
  rw [e] at hm
  rcases List.mem_append.mp hm with h | h
  · exact hp h
  · exact (f p h).no ho hn
theorem Gr.get (g : Gr ρ H ρ' H') {n : Nat} {p : Addr} (h : ρ[n]? = some p) : ρ'[n]? = some p := by
  obtain ⟨m, e, f⟩ := g.pre
  rw [e, List.getElem?_append_left (List.getElem?_eq_some_iff.mp h).1]
  exact h
theorem Gr.out' (g : Gr ρ H ρ' H') {p : Addr} {o : HO} (hp : Out C ρ p) (ho : H p = some o) (hn : ∀ ps, o ≠ .tbl ps := by intro ps q; cases q) : Out C ρ' p := ⟨g.out hp.1 ho hn, hp.2⟩
theorem Rd.out {p : Addr} {u : HO} (g : Gr ρ H ρ' H') (hp : Out C ρ p) (h : Rd H p u) (hu : ∀ ps, u ≠ .tbl ps) : Out C ρ' p ∧ Rd H' p u := by
  rcases h with h | ⟨o, h⟩
  · exact ⟨g.out' hp h hu, .inl (g.keep p _ hp.1 h hu)⟩
  · exact ⟨g.out' hp h, .inr ⟨o, g.keep p _ hp.1 h (fun _ q => by cases q)⟩⟩
theorem RT.mono {p : Addr} {vs : List V} (g : Gr ρ H ρ' H') (h : RT C ρ H p vs) : RT C ρ' H' p vs := by
  rcases h with ⟨h1, h2⟩ | h
  · exact .inl (Rd.out g h1 h2 (fun _ q => by cases q))
  · exact .inr h
mutual
theorem Rep.mono (g : Gr ρ H ρ' H') : ∀ (w : W) (v : V), Rep C ρ H w v → Rep C ρ' H' w v
  | .non, v, h => by simpa only [Rep] using h
  | .bl b, v, h => by simpa only [Rep] using h
  | .int i, v, h => by simpa only [Rep] using h
  | .str l, v, h => by simpa only [Rep] using h
  | .tup xs, v, h => by
    simp only [Rep] at h ⊢
    obtain ⟨p, vs, e, r, q⟩ := h
    exact ⟨p, vs, e, r.mono g, Reps.mono g xs vs q⟩
  | .htup xs, v, h => by
    simp only [Rep] at h ⊢
    obtain ⟨p, vs, o, e, n, r, hd, q⟩ := h
    exact ⟨p, vs, o, e, g.out' n r, g.keep p _ n.1 r (fun _ q => by cases q), hd, Reps.mono g xs vs q⟩
  | .lst xs, v, h => by
    simp only [Rep] at h ⊢
    obtain ⟨p, vs, e, n, r, q⟩ := h
    exact ⟨p, vs, e, g.out' n r, g.keep p _ n.1 r (fun _ q => by cases q), Reps.mono g xs vs q⟩
  | .dct ks ws, v, h => by
    simp only [Rep] at h ⊢
    obtain ⟨p, kvs, e, n, r, hk, q⟩ := h
    exact ⟨p, kvs, e, g.out' n r, g.keep p _ n.1 r (fun _ q => by cases q), hk, Reps.mono g ws _ q⟩
  | .ref n, v, h => by
    simp only [Rep] at h ⊢
    obtain ⟨p, e, q⟩ := h
    exact ⟨p, g.get e, q⟩
  | .scr ns, v, h => by
    simp only [Rep] at h ⊢
    obtain ⟨p, e, ⟨n, r⟩ | r⟩ := h
    · exact ⟨p, e, .inl (Rd.out g n r (fun _ q => by cases q))⟩
    · exact ⟨p, e, .inr r⟩
  | .ty s, v, h => by simpa only [Rep] using h
  | .fn n, v, h => by simpa only [Rep] using h
theorem Reps.mono (g : Gr ρ H ρ' H') : ∀ (ws : List W) (vs : List V), Reps C ρ H ws vs → Reps C ρ' H' ws vs
  | [], [], _ => by simp only [Reps]
  | [], _ :: _, h => by simp only [Reps] at h
  | _ :: _, [], h => by simp only [Reps] at h
  | x :: xs, v :: vs, h => by
    simp only [Reps] at h ⊢
    exact ⟨Rep.mono g x v h.1, Reps.mono g xs vs h.2⟩
end
theorem Reps.length : ∀ {ws : List W} {vs : List V}, Reps C ρ H ws vs → ws.length = vs.length
  | [], [], _ => rfl
  | [], _ :: _, h => by simp only [Reps] at h
  | _ :: _, [], h => by simp only [Reps] at h
  | x :: xs, v :: vs, h => by
    simp only [Reps] at h
    simp [Reps.length h.2]
theorem Reps.get : ∀ {ws : List W} {vs : List V} {i : Nat} {w : W}, Reps C ρ H ws vs → ws[i]? = some w → ∃ v, vs[i]? = some v ∧ Rep C ρ H w v
  | [], _, _, _, _, e => by simp at e
  | _ :: _, [], _, _, h, _ => by simp only [Reps] at h
  | x :: xs, v :: vs, 0, w, h, e => by
    simp only [Reps] at h
    simp at e; subst e
    exact ⟨v, rfl, h.1⟩
  | x :: xs, v :: vs, i + 1, w, h, e => by
    simp only [Reps] at h
    obtain ⟨u, e1, r⟩ := Reps.get (i := i) h.2 (by simpa using e)
    exact ⟨u, by simpa using e1, r⟩
theorem Reps.app : ∀ {ws us : List W} {vs xs : List V}, Reps C ρ H ws vs → Reps C ρ H us xs → Reps C ρ H (ws ++ us) (vs ++ xs)
  | [], _, [], _, _, h => h
  | [], _, _ :: _, _, h, _ => by simp only [Reps] at h
  | _ :: _, _, [], _, h, _ => by simp only [Reps] at h
  | x :: xs, us, v :: vs, ys, h, q => by
    simp only [Reps, List.cons_append] at h ⊢
    exact ⟨h.1, Reps.app h.2 q⟩
theorem Reps.take : ∀ {ws : List W} {vs : List V} (n : Nat), Reps C ρ H ws vs → Reps C ρ H (ws.take n) (vs.take n)
  | _, _, 0, _ => by simp only [List.take_zero, Reps]
  | [], [], _ + 1, _ => by simp only [List.take_nil, Reps]
  | [], _ :: _, _, h => by simp only [Reps] at h
  | _ :: _, [], _, h => by simp only [Reps] at h
  | x :: xs, v :: vs, n + 1, h => by
    simp only [Reps, List.take_succ_cons] at h ⊢
    exact ⟨h.1, Reps.take n h.2⟩
theorem Reps.drop : ∀ {ws : List W} {vs : List V} (n : Nat), Reps C ρ H ws vs → Reps C ρ H (ws.drop n) (vs.drop n)
  | _, _, 0, h => h
  | [], [], _ + 1, h => h
  | [], _ :: _, _, h => by simp only [Reps] at h
  | _ :: _, [], _, h => by simp only [Reps] at h
  | x :: xs, v :: vs, n + 1, h => by
    simp only [Reps, List.drop_succ_cons] at h ⊢
    exact Reps.drop n h.2
theorem Reps.set : ∀ {ws : List W} {vs : List V} (i : Nat) {w : W} {v : V}, Reps C ρ H ws vs → Rep C ρ H w v → Reps C ρ H (ws.set i w) (vs.set i v)
  | [], [], _, _, _, h, _ => h
  | [], _ :: _, _, _, _, h, _ => by simp only [Reps] at h
  | _ :: _, [], _, _, _, h, _ => by simp only [Reps] at h
  | x :: xs, v :: vs, 0, _, _, h, q => by
    simp only [Reps, List.set_cons_zero] at h ⊢
    exact ⟨q, h.2⟩
  | x :: xs, v :: vs, i + 1, _, _, h, q => by
    simp only [Reps, List.set_cons_succ] at h ⊢
    exact ⟨h.1, Reps.set i h.2 q⟩
theorem Reps.erase : ∀ {ws : List W} {vs : List V} (i : Nat), Reps C ρ H ws vs → Reps C ρ H (ws.eraseIdx i) (vs.eraseIdx i)
  | [], [], _, h => h
  | [], _ :: _, _, h => by simp only [Reps] at h
  | _ :: _, [], _, h => by simp only [Reps] at h
  | x :: xs, v :: vs, 0, h => by
    simp only [Reps, List.eraseIdx_cons_zero] at h ⊢
    exact h.2
  | x :: xs, v :: vs, i + 1, h => by
    simp only [Reps, List.eraseIdx_cons_succ] at h ⊢
    exact ⟨h.1, Reps.erase i h.2⟩
theorem Reps.rev : ∀ {ws : List W} {vs : List V}, Reps C ρ H ws vs → Reps C ρ H ws.reverse vs.reverse
  | [], [], h => h
  | [], _ :: _, h => by simp only [Reps] at h
  | _ :: _, [], h => by simp only [Reps] at h
  | x :: xs, v :: vs, h => by
    simp only [Reps, List.reverse_cons] at h ⊢
    exact Reps.app (Reps.rev h.2) (by simp only [Reps]; exact ⟨h.1, trivial⟩)
theorem Reps.one {w : W} {v : V} (h : Rep C ρ H w v) : Reps C ρ H [w] [v] := by simp only [Reps]; exact ⟨h, trivial⟩
theorem Reps.nil' {vs : List V} (h : Reps C ρ H [] vs) : vs = [] := by
  cases vs with
  | nil => rfl
  | cons _ _ => simp only [Reps] at h
theorem Reps.cons' {x : W} {xs : List W} {vs : List V} (h : Reps C ρ H (x :: xs) vs) : ∃ v us, vs = v :: us ∧ Rep C ρ H x v ∧ Reps C ρ H xs us := by
  cases vs with
  | nil => simp only [Reps] at h
  | cons v us => simp only [Reps] at h; exact ⟨v, us, rfl, h.1, h.2⟩
theorem Reps.mk {x : W} {xs : List W} {v : V} {vs : List V} (h : Rep C ρ H x v) (t : Reps C ρ H xs vs) : Reps C ρ H (x :: xs) (v :: vs) := by simp only [Reps]; exact ⟨h, t⟩

/-- the store where its lists stand as they stood -/
theorem SR.mono {s : ST} (S : SR C ρ H s) (g : Gr ρ H ρ H') (h : ∀ p ∈ ρ, H' p = H p) (tb : LamX.Tabs C.T H') : SR C ρ H' s where
  xl := fun p hp => by
    obtain ⟨h1, vs, h2⟩ := S.xl p hp
    exact ⟨h1, vs, g.keep p _ h1 h2 (fun _ q => by cases q)⟩
  tb := tb
  len := S.len
  nd := S.nd
  at_ := fun n xs e => by
    obtain ⟨p, vs, e1, e2, r⟩ := S.at_ n xs e
    exact ⟨p, vs, e1, (h p (List.mem_of_getElem? e1)).trans e2, Reps.mono g xs vs r⟩
theorem SR.some {s : ST} (S : SR C ρ H s) {p : Addr} (hp : p ∈ ρ) : ∃ vs, H p = some (.lst vs) := by
  obtain ⟨n, hn⟩ := List.mem_iff_getElem?.mp hp
  have hl : n < s.length := by rw [← S.len]; exact (List.getElem?_eq_some_iff.mp hn).1
  obtain ⟨q, vs, e1, e2, _⟩ := S.at_ n s[n] (List.getElem?_eq_getElem hl)
  rw [hn] at e1; cases e1
  exact ⟨vs, e2⟩
/-- a new object -/
theorem Gr.new {p : Addr} {o : HO} (hn : H p = none) : Gr ρ H ρ (upd H p o) := by
  refine ⟨⟨[], by simp, fun _ h => nomatch h⟩, fun q u _ h _ => ?_, fun q h => ?_⟩
  · rw [upd_ne (ne_of_none h hn)]; exact h
  · by_cases e : q = p
    · subst e; exact Fre.of hn
    · exact fun u hu => h u (by rw [upd_ne e]; exact hu)
theorem SR.new {s : ST} {p : Addr} {o : HO} (S : SR C ρ H s) (hn : H p = none) : SR C ρ (upd H p o) s :=
  S.mono (Gr.new hn) (fun q hq => by
    obtain ⟨vs, e⟩ := S.some hq
    exact upd_ne (ne_of_none e hn)) (tabs_new S.tb hn)
theorem SR.fresh {s : ST} {p : Addr} (S : SR C ρ H s) (hn : H p = none) : p ∉ ρ := fun hp => by
  obtain ⟨vs, e⟩ := S.some hp
  rw [hn] at e; cases e
theorem SR.fresh' {s : ST} {p : Addr} (S : SR C ρ H s) (hn : H p = none) : Out C ρ p := ⟨S.fresh hn, fun hx => by
  obtain ⟨_, vs, e⟩ := S.xl p hx
  rw [hn] at e; cases e⟩
theorem Rep.newT {s : ST} {p : Addr} {ws : List W} {vs : List V} (S : SR C ρ H s) (hn : H p = none) (r : Reps C ρ H ws vs) : Rep C ρ (upd H p (.tup vs)) (.tup ws) (.ref p) := by
  simp only [Rep]
  exact ⟨p, vs, rfl, .inl ⟨S.fresh' hn, .inl upd_same⟩, Reps.mono (Gr.new hn) ws vs r⟩
theorem Rep.newH {s : ST} {p : Addr} {ws : List W} {vs : List V} {o : Obj} (S : SR C ρ H s) (hn : H p = none) (hd : o.dict = none) (r : Reps C ρ H ws vs) : Rep C ρ (upd H p (.frz o (.tup vs))) (.htup ws) (.ref p) := by
  simp only [Rep]
  exact ⟨p, vs, o, rfl, S.fresh' hn, upd_same, hd, Reps.mono (Gr.new hn) ws vs r⟩
theorem Rep.newL {s : ST} {p : Addr} {ws : List W} {vs : List V} (S : SR C ρ H s) (hn : H p = none) (r : Reps C ρ H ws vs) : Rep C ρ (upd H p (.lst vs)) (.lst ws) (.ref p) := by
  simp only [Rep]
  exact ⟨p, vs, rfl, S.fresh' hn, upd_same, Reps.mono (Gr.new hn) ws vs r⟩

/-- what is wanted of a value -/
def OkP (C : Cn) (ρ : List Addr) (H : Hp) (s : ST) (w : W) (Q : VK) : Prop := ∀ ρ' H' v, Gr ρ H ρ' H' → SR C ρ' H' s → Rep C ρ' H' w v → Q v H'
theorem OkP.here {s : ST} {w : W} {v : V} {Q : VK} (k : OkP C ρ H s w Q) (S : SR C ρ H s) (r : Rep C ρ H w v) : Q v H := k ρ H v Gr.refl S r
theorem OkP.tup {s : ST} {ws : List W} {vs : List V} {Q : VK} (k : OkP C ρ H s (.tup ws) Q) (S : SR C ρ H s) (r : Reps C ρ H ws vs) : ∀ p, H p = none → Q (.ref p) (upd H p (.tup vs)) :=
  fun p hn => k ρ _ _ (Gr.new hn) (S.new hn) (Rep.newT S hn r)
theorem OkP.htup {s : ST} {ws : List W} {vs : List V} {Q : VK} (k : OkP C ρ H s (.htup ws) Q) (S : SR C ρ H s) (r : Reps C ρ H ws vs) : ∀ p o, H p = none → o.dict = none → Q (.ref p) (upd H p (.frz o (.tup vs))) :=
  fun p o hn hd => k ρ _ _ (Gr.new hn) (S.new hn) (Rep.newH S hn hd r)
theorem OkP.lst {s : ST} {ws : List W} {vs : List V} {Q : VK} (k : OkP C ρ H s (.lst ws) Q) (S : SR C ρ H s) (r : Reps C ρ H ws vs) : ∀ p, H p = none → Q (.ref p) (upd H p (.lst vs)) :=
  fun p hn => k ρ _ _ (Gr.new hn) (S.new hn) (Rep.newL S hn r)
theorem OkP.mono {s : ST} {w : W} {Q : VK} (k : OkP C ρ H s w Q) (g : Gr ρ H ρ' H') : OkP C ρ' H' s w Q := fun ρ2 H2 v g2 S r => k ρ2 H2 v (g.trans g2) S r

/-! ### an address hidden -/
section
variable {D : Addr}
theorem Out.hide {p : Addr} {o : HO} (hD : Fre H D) (h : Out C ρ p) (e : H p = some o) (hn : ∀ ps, o ≠ .tbl ps := by intro ps q; cases q) : Out (C.hide D) ρ p := ⟨h.1, fun q => q.elim h.2 (fun q => by subst q; exact hD.no e hn)⟩
theorem Out.show {p : Addr} (h : Out (C.hide D) ρ p) : Out C ρ p := ⟨h.1, fun q => h.2 (.inl q)⟩
theorem Rd.get {p : Addr} {u : HO} (h : Rd H p u) (hu : ∀ ps, u ≠ .tbl ps := by intro ps q; cases q) : ∃ o, H p = some o ∧ ∀ ps, o ≠ .tbl ps := by
  rcases h with h | ⟨o, h⟩
  · exact ⟨_, h, hu⟩
  · exact ⟨_, h, fun _ q => by cases q⟩
mutual
theorem Rep.hide (hD : Fre H D) : ∀ (w : W) (v : V), Rep C ρ H w v → Rep (C.hide D) ρ H w v
  | .non, v, h => by simpa only [Rep] using h
  | .bl b, v, h => by simpa only [Rep] using h
  | .int i, v, h => by simpa only [Rep] using h
  | .str l, v, h => by simpa only [Rep] using h
  | .tup xs, v, h => by
    simp only [Rep] at h ⊢
    obtain ⟨p, vs, e, r, q⟩ := h
    refine ⟨p, vs, e, ?_, Reps.hide hD xs vs q⟩
    rcases r with ⟨o, r⟩ | r
    · obtain ⟨u, hu, hn⟩ := Rd.get r
      exact .inl ⟨o.hide hD hu hn, r⟩
    · exact .inr r
  | .htup xs, v, h => by
    simp only [Rep] at h ⊢
    obtain ⟨p, vs, o, e, n, r, hd, q⟩ := h
    exact ⟨p, vs, o, e, n.hide hD r, r, hd, Reps.hide hD xs vs q⟩
  | .lst xs, v, h => by
    simp only [Rep] at h ⊢
    obtain ⟨p, vs, e, n, r, q⟩ := h
    exact ⟨p, vs, e, n.hide hD r, r, Reps.hide hD xs vs q⟩
  | .dct ks ws, v, h => by
    simp only [Rep] at h ⊢
    obtain ⟨p, kvs, e, n, r, hk, q⟩ := h
    exact ⟨p, kvs, e, n.hide hD r, r, hk, Reps.hide hD ws _ q⟩
  | .ref n, v, h => by simpa only [Rep] using h
  | .scr ns, v, h => by
    simp only [Rep] at h ⊢
    obtain ⟨p, e, ⟨n, r⟩ | r⟩ := h
    · obtain ⟨u, hu, hn⟩ := Rd.get r
      exact ⟨p, e, .inl ⟨n.hide hD hu hn, r⟩⟩
    · exact ⟨p, e, .inr r⟩
  | .ty s, v, h => by simpa only [Rep] using h
  | .fn n, v, h => by simpa only [Rep, Cn.hide] using h
theorem Reps.hide (hD : Fre H D) : ∀ (ws : List W) (vs : List V), Reps C ρ H ws vs → Reps (C.hide D) ρ H ws vs
  | [], [], _ => by simp only [Reps]
  | [], _ :: _, h => by simp only [Reps] at h
  | _ :: _, [], h => by simp only [Reps] at h
  | x :: xs, v :: vs, h => by
    simp only [Reps] at h ⊢
    exact ⟨Rep.hide hD x v h.1, Reps.hide hD xs vs h.2⟩
end
mutual
theorem Rep.show : ∀ (w : W) (v : V), Rep (C.hide D) ρ H w v → Rep C ρ H w v
  | .non, v, h => by simpa only [Rep] using h
  | .bl b, v, h => by simpa only [Rep] using h
  | .int i, v, h => by simpa only [Rep] using h
  | .str l, v, h => by simpa only [Rep] using h
  | .tup xs, v, h => by
    simp only [Rep] at h ⊢
    obtain ⟨p, vs, e, r, q⟩ := h
    refine ⟨p, vs, e, ?_, Reps.show xs vs q⟩
    rcases r with ⟨o, r⟩ | r
    · exact .inl ⟨o.show, r⟩
    · exact .inr r
  | .htup xs, v, h => by
    simp only [Rep] at h ⊢
    obtain ⟨p, vs, o, e, n, r, hd, q⟩ := h
    exact ⟨p, vs, o, e, n.show, r, hd, Reps.show xs vs q⟩
  | .lst xs, v, h => by
    simp only [Rep] at h ⊢
    obtain ⟨p, vs, e, n, r, q⟩ := h
    exact ⟨p, vs, e, n.show, r, Reps.show xs vs q⟩
  | .dct ks ws, v, h => by
    simp only [Rep] at h ⊢
    obtain ⟨p, kvs, e, n, r, hk, q⟩ := h
    exact ⟨p, kvs, e, n.show, r, hk, Reps.show ws _ q⟩
  | .ref n, v, h => by simpa only [Rep] using h
  | .scr ns, v, h => by
    simp only [Rep] at h ⊢
    obtain ⟨p, e, ⟨n, r⟩ | r⟩ := h
    · exact ⟨p, e, .inl ⟨n.show, r⟩⟩
    · exact ⟨p, e, .inr r⟩
  | .ty s, v, h => by simpa only [Rep] using h
  | .fn n, v, h => by simpa only [Rep, Cn.hide] using h
theorem Reps.show : ∀ (ws : List W) (vs : List V), Reps (C.hide D) ρ H ws vs → Reps C ρ H ws vs
  | [], [], _ => by simp only [Reps]
  | [], _ :: _, h => by simp only [Reps] at h
  | _ :: _, [], h => by simp only [Reps] at h
  | x :: xs, v :: vs, h => by
    simp only [Reps] at h ⊢
    exact ⟨Rep.show x v h.1, Reps.show xs vs h.2⟩
end
/-! what stands at the hidden address is changed -/
mutual
theorem Rep.other (o : HO) : ∀ (w : W) (v : V), Rep (C.hide D) ρ H w v → Rep (C.hide D) ρ (upd H D o) w v
  | .non, v, h => by simpa only [Rep] using h
  | .bl b, v, h => by simpa only [Rep] using h
  | .int i, v, h => by simpa only [Rep] using h
  | .str l, v, h => by simpa only [Rep] using h
  | .tup xs, v, h => by
    simp only [Rep] at h ⊢
    obtain ⟨p, vs, e, r, q⟩ := h
    refine ⟨p, vs, e, ?_, Reps.other o xs vs q⟩
    rcases r with ⟨n, r⟩ | r
    · have hp : p ≠ D := fun q => n.2 (.inr q)
      refine .inl ⟨n, ?_⟩
      rcases r with r | ⟨u, r⟩
      · exact .inl (by rw [upd_ne hp]; exact r)
      · exact .inr ⟨u, by rw [upd_ne hp]; exact r⟩
    · exact .inr r
  | .htup xs, v, h => by
    simp only [Rep] at h ⊢
    obtain ⟨p, vs, u, e, n, r, hd, q⟩ := h
    exact ⟨p, vs, u, e, n, by rw [upd_ne (fun q => n.2 (.inr q))]; exact r, hd, Reps.other o xs vs q⟩
  | .lst xs, v, h => by
    simp only [Rep] at h ⊢
    obtain ⟨p, vs, e, n, r, q⟩ := h
    exact ⟨p, vs, e, n, by rw [upd_ne (fun q => n.2 (.inr q))]; exact r, Reps.other o xs vs q⟩
  | .dct ks ws, v, h => by
    simp only [Rep] at h ⊢
    obtain ⟨p, kvs, e, n, r, hk, q⟩ := h
    exact ⟨p, kvs, e, n, by rw [upd_ne (fun q => n.2 (.inr q))]; exact r, hk, Reps.other o ws _ q⟩
  | .ref n, v, h => by simpa only [Rep] using h
  | .scr ns, v, h => by
    simp only [Rep] at h ⊢
    obtain ⟨p, e, ⟨n, r⟩ | r⟩ := h
    · have hp : p ≠ D := fun q => n.2 (.inr q)
      refine ⟨p, e, .inl ⟨n, ?_⟩⟩
      rcases r with r | ⟨u, r⟩
      · exact .inl (by rw [upd_ne hp]; exact r)
      · exact .inr ⟨u, by rw [upd_ne hp]; exact r⟩
    · exact ⟨p, e, .inr r⟩
  | .ty s, v, h => by simpa only [Rep] using h
  | .fn n, v, h => by simpa only [Rep] using h
theorem Reps.other (o : HO) : ∀ (ws : List W) (vs : List V), Reps (C.hide D) ρ H ws vs → Reps (C.hide D) ρ (upd H D o) ws vs
  | [], [], _ => by simp only [Reps]
  | [], _ :: _, h => by simp only [Reps] at h
  | _ :: _, [], h => by simp only [Reps] at h
  | x :: xs, v :: vs, h => by
    simp only [Reps] at h ⊢
    exact ⟨Rep.other o x v h.1, Reps.other o xs vs h.2⟩
end
theorem SR.hide {s : ST} {zs : List V} (S : SR C ρ H s) (hD : H D = none) : SR (C.hide D) ρ (upd H D (.lst zs)) s := by
  have hf := S.fresh hD
  refine ⟨fun p hp => ?_, tabs_new S.tb hD, S.len, S.nd, fun n xs e => ?_⟩
  · rcases hp with hp | rfl
    · obtain ⟨h1, vs, h2⟩ := S.xl p hp
      exact ⟨h1, vs, by rw [upd_ne (ne_of_none h2 hD)]; exact h2⟩
    · exact ⟨hf, zs, upd_same⟩
  · obtain ⟨p, vs, e1, e2, r⟩ := S.at_ n xs e
    have hp : p ≠ D := fun q => hf (q ▸ List.mem_of_getElem? e1)
    exact ⟨p, vs, e1, by rw [upd_ne hp]; exact e2, Reps.other _ _ _ (Reps.hide (Fre.of hD) _ _ r)⟩
theorem SR.other {s : ST} (S : SR (C.hide D) ρ H s) (zs : List V) : SR (C.hide D) ρ (upd H D (.lst zs)) s := by
  obtain ⟨hf, vs0, hv0⟩ := S.xl D (.inr rfl)
  refine ⟨fun p hp => ?_, tabs_wr S.tb hv0, S.len, S.nd, fun n xs e => ?_⟩
  · obtain ⟨h1, vs, h2⟩ := S.xl p hp
    by_cases e : p = D
    · subst e; exact ⟨h1, zs, upd_same⟩
    · exact ⟨h1, vs, by rw [upd_ne e]; exact h2⟩
  · obtain ⟨p, vs, e1, e2, r⟩ := S.at_ n xs e
    have hp : p ≠ D := fun q => hf (q ▸ List.mem_of_getElem? e1)
    exact ⟨p, vs, e1, by rw [upd_ne hp]; exact e2, Reps.other _ _ _ r⟩
theorem SR.show {s : ST} (S : SR (C.hide D) ρ H s) : SR C ρ H s :=
  ⟨fun p hp => S.xl p (.inl hp), S.tb, S.len, S.nd, fun n xs e => by
    obtain ⟨p, vs, e1, e2, r⟩ := S.at_ n xs e
    exact ⟨p, vs, e1, e2, Reps.show _ _ r⟩⟩
/-- seen from where the hidden address was free -/
theorem Gr.past (g : Gr ρ H ρ' H') (hD : H D = none) (hD' : D ∉ ρ') (o : HO) : Gr ρ H ρ' (upd H' D o) := by
  refine ⟨g.pre, fun p u hp e hn => ?_, fun p e => ?_⟩
  · rw [upd_ne (ne_of_none e hD)]; exact g.keep p u hp e hn
  · by_cases q : p = D
    · subst q; exact Fre.of hD
    · exact g.live p fun u hu => e u (by rw [upd_ne q]; exact hu)
end

/-! ### reading the forms -/
theorem Rep.int {i : Int} {v : V} (h : Rep C ρ H (.int i) v) : v = .int i := by simpa only [Rep] using h
theorem Rep.bl {b : Bool} {v : V} (h : Rep C ρ H (.bl b) v) : v = .bl b := by simpa only [Rep] using h
theorem Rep.non {v : V} (h : Rep C ρ H .non v) : v = .non := by simpa only [Rep] using h
theorem Rep.str {l : List Nat} {v : V} (h : Rep C ρ H (.str l) v) : v = .str (strOf l) ∧ okS l := by simpa only [Rep] using h
theorem Rep.mkI {i : Int} : Rep C ρ H (.int i) (.int i) := by simp only [Rep]
theorem Rep.mkB {b : Bool} : Rep C ρ H (.bl b) (.bl b) := by simp only [Rep]
theorem Rep.mkN : Rep C ρ H .non .non := by simp only [Rep]
theorem Rep.mkS {l : List Nat} (h : okS l) : Rep C ρ H (.str l) (.str (strOf l)) := by unfold Rep; exact ⟨rfl, h⟩
theorem RT.sq {p : Addr} {vs : List V} (h : RT C ρ H p vs) : SqT C.K H p vs := by
  rcases h with ⟨_, h⟩ | h
  · exact .inl h
  · exact .inr h
theorem Rep.tup {xs : List W} {v : V} (h : Rep C ρ H (.tup xs) v) : ∃ p vs, v = .ref p ∧ RT C ρ H p vs ∧ Reps C ρ H xs vs := by simpa only [Rep] using h
theorem Rep.soft : ∀ (a : W) (v : V), Rep C ρ H a v → Rep C ρ H (soft a) v
  | .htup xs, v, h => by
    simp only [G.soft]
    simp only [Rep] at h ⊢
    obtain ⟨p, vs, o, e, n, r, hd, q⟩ := h
    exact ⟨p, vs, e, .inl ⟨n, .inr ⟨o, r⟩⟩, q⟩
  | .non, v, h | .bl _, v, h | .int _, v, h | .str _, v, h | .tup _, v, h | .lst _, v, h | .dct _ _, v, h | .ref _, v, h | .scr _, v, h | .ty _, v, h | .fn _, v, h => h
theorem seqL_rep {s : ST} {a : W} {v : V} {xs : List W} (S : SR C ρ H s) (r : Rep C ρ H a v) (h : seqL s a = some xs) : ∃ p vs, v = .ref p ∧ H p = some (.lst vs) ∧ Reps C ρ H xs vs := by
  cases a with
  | lst ys =>
    simp only [seqL, Option.some.injEq] at h; subst h
    simp only [Rep] at r
    obtain ⟨p, vs, e, _, e2, q⟩ := r
    exact ⟨p, vs, e, e2, q⟩
  | ref n =>
    simp only [seqL] at h
    simp only [Rep] at r
    obtain ⟨p, e, rfl⟩ := r
    obtain ⟨q, vs, e1, e2, r⟩ := S.at_ n xs h
    rw [e] at e1; cases e1
    exact ⟨p, vs, rfl, e2, r⟩
  | _ => simp [seqL] at h
theorem seqI_rep {s : ST} {a : W} {v : V} {xs : List W} (S : SR C ρ H s) (r : Rep C ρ H a v) (h : seqI s a = some xs) : ∃ p vs, v = .ref p ∧ (SqL C.K H p vs ∨ SqT C.K H p vs) ∧ Reps C ρ H xs vs := by
  cases a with
  | lst ys =>
    obtain ⟨p, vs, e, e2, q⟩ := seqL_rep (xs := xs) S r h
    exact ⟨p, vs, e, .inl (SqL.of e2), q⟩
  | ref n =>
    obtain ⟨p, vs, e, e2, q⟩ := seqL_rep (xs := xs) S r h
    exact ⟨p, vs, e, .inl (SqL.of e2), q⟩
  | tup ys =>
    simp only [seqI, Option.some.injEq] at h; subst h
    obtain ⟨p, vs, e, q, r⟩ := Rep.tup r
    exact ⟨p, vs, e, .inr q.sq, r⟩
  | htup ys =>
    simp only [seqI, Option.some.injEq] at h; subst h
    obtain ⟨p, vs, e, q, r⟩ := Rep.tup (Rep.soft (.htup ys) _ r)
    exact ⟨p, vs, e, .inr q.sq, r⟩
  | _ => simp [seqI] at h
end
end G

set_option Elab.async false
set_option linter.all false
set_option autoImplicit false
set_option maxRecDepth 100000
set_option maxHeartbeats 4000000
/-! GN: rules that the layer lacks. -/
namespace GN
open PySem PySem.Spec PyProof.Rows L2
/-- how many unlike texts a row brings to those seen -/
def unlike (seen : List Str) : List Str → Nat
  | [] => 0
  | k :: ks => (if seen.contains k then 0 else 1) + unlike (seen ++ [k]) ks
theorem unlike_le : ∀ (ks seen : List Str), unlike seen ks ≤ ks.length
  | [], _ => Nat.le_refl _
  | k :: ks, seen => by
    have := unlike_le ks (seen ++ [k])
    simp only [unlike, List.length_cons]
    split <;> omega
section
variable {prog : Program} {w : World} {A : Around} {R : Result → Shared → Prop} {I : Addr} {fp wr : List Addr} {G : Array GenState → Array GenState → Prop} {P : Nat → Value → Prop} {St : Nat → Shared → Prop}
/-- the rounds that fill a set with the texts of a walk -/
theorem fill {D : Addr} {all : List Str} (W : WalksS prog w A.in1 I fp wr G all.length P St) (off : D ∉ fp) (few : all.length < 4000) (told : ∀ i v, P i v → ∃ x t, all[i]? = some x ∧ v = .str x t) :
    ∀ (todo seen : List Str) (n : Nat) (s : Shared), all = seen ++ todo → n ≤ seen.length → St seen.length s → s.heap.SetOf (PySem.strKind prog w) D (fun k => seen.contains k) n →
      (∀ s2, Moved (D :: wr) G s s2 → s2.heap.SetOf (PySem.strKind prog w) D (fun k => all.contains k) (n + unlike seen todo) → R (.ok (.ret .none)) s2) →
      codeAny (model prog w) A (.builtin "set.update.loop" ⟨[.ref D, .ref I], []⟩) R s := by
  have offw : D ∉ wr := fun q => off (W.sub _ q)
  have wide : ∀ b ∈ wr, b ∈ D :: wr := fun b q => .tail _ q
  have stay : ∀ {h h2 : Heap} {S : Str → Bool} {m : Nat}, (∀ o, h.get? D = some o → h2.get? D = some o) → h.SetOf (PySem.strKind prog w) D S m → h2.SetOf (PySem.strKind prog w) D S m := fun hk ⟨o, es, ep, t, e, r⟩ => ⟨o, es, ep, t, hk o e, r⟩
  intro todo
  induction todo with
  | nil =>
    intro seen n s ea hn st hs hR
    rw [List.append_nil] at ea
    subst ea
    refine codeAny_builtin PyProof.Rows.F.entry_set_update_loop ?_
    rw [Around.under_plainId PyProof.Rows.F.plain_set_update_loop _]
    show wpAny _ A.in1 (pyNext (.ref I) >>= _) _ _ s
    refine wpAny_bind (W.done s _ _ st fun s2 mv => ?_)
    exact wpAny_pure (hR s2 (mv.mono wide) (stay (fun o e => mv.heap D o offw e) hs))
  | cons x todo ih =>
    intro seen n s ea hn st hs hR
    have hlen : all.length = seen.length + (todo.length + 1) := by rw [ea]; simp
    refine codeAny_builtin PyProof.Rows.F.entry_set_update_loop ?_
    rw [Around.under_plainId PyProof.Rows.F.plain_set_update_loop _]
    show wpAny _ A.in1 (pyNext (.ref I) >>= _) _ _ s
    refine wpAny_bind (W.item _ s _ _ (by omega) st fun v s2 hv st2 mv => ?_)
    obtain ⟨y, t, ey, rfl⟩ := told _ _ hv
    have exy : y = x := by
      rw [ea] at ey
      simpa using ey.symm
    subst exy
    have hs2 := stay (fun o e => mv.heap D o offw e) hs
    show wpAny _ A.in1 (holding [Value.str y t] (setAdd D (.str y t)) >>= _) _ _ s2
    refine wpAny_bind (wpAny_holding ?_)
    unfold setAdd
    refine wpAny_holding (wpAny_bind ((PySem.strKind prog w).pyHash (k := y) (strKind_is _ _ _ _) ?_))
    refine wpAny_setAddHashed_of (knd := PySem.strKind prog w) (s := { s2 with toks := s2.toks + 1 }) (strKind_is _ _ _ _) rfl hs2 (by unfold scanBound; omega) fun h3 same hs3 => ?_
    have e3 : h3.SetOf (PySem.strKind prog w) D (fun k => (seen ++ [y]).contains k) (n + (if seen.contains y then 0 else 1)) := by
      refine SetOf_congr hs3 (fun k => ?_) (by split <;> rfl)
      simp only [List.contains_eq_mem, List.mem_append, List.mem_singleton, Bool.decide_or]
    refine wpAny_pure ⟨plainId_quiet PyProof.Rows.F.plain_set_update_loop _, ih (seen ++ [y]) _ _ (by rw [ea]; simp) (by rw [List.length_append, List.length_singleton]; split <;> omega) ?_ e3 fun s4 mv4 hs4 => ?_⟩
    · rw [List.length_append, List.length_singleton]
      refine W.frame _ s2 _ _ st2 (Nat.le_succ _) fun b hb o e => ?_
      rw [same.2 b (fun q => off (q ▸ hb))]; exact e
    · refine hR s4 (Moved.trans W.gtrans ((mv.mono wide).then_heap (Nat.le_succ _) fun b o hb e => ?_) mv4) ?_
      · rw [same.2 b (fun q => hb (q ▸ List.mem_cons_self))]; exact e
      · rw [unlike, ← Nat.add_assoc]; exact hs4
end
end GN
namespace GN
open PySem PySem.Spec PyProof.Rows L2
section
variable {prog : Program} {w : World} {A : Around} {E : Value → Shared → Prop} {s : Shared}
theorem texts_at : ∀ {us : List Value} {xs : List Str}, StrsAre us xs → ∀ (i : Nat) (v : Value), us[i]? = some v → ∃ x t, xs[i]? = some x ∧ v = .str x t
  | _, _, .nil, _, _, h => by cases h
  | _, _, .cons x t r, 0, v, h => ⟨x, t, rfl, (Option.some.inj h).symm⟩
  | _, _, .cons x t r, i + 1, v, h => texts_at r i v h
/-- a class of the built-ins called, its __init__ checked by a rule of its own -/
theorem call_class {T nw ini : String} {Bi : Builtin} {args : List Value} {Q Q1 : Value → Shared → Prop} (ft : TypeCalled T nw ini) (hct : checkTypeCall T ⟨args, []⟩ = pure ()) (ent : entryFor table ini = some Bi)
    (new : codeAny (model prog w) A.in1 (.call (.builtin nw) ⟨.type T :: args, []⟩) (wants Q1 E) s)
    (next : ∀ obj s1, Q1 obj s1 → s1.TypeIs obj T ∧ (∀ (B : Around) (E' : Value → Shared → Prop) (K : Unit → Shared → Prop), K () s1 → wpAny (model prog w) B (checkBuiltinCall ini ⟨obj :: args, []⟩) K E' s1) ∧
      wpAny (model prog w) A.in1.in1 (Bi ⟨obj :: args, []⟩) (fun fin s2 => match fin with | .done f => wants (fun r s3 => r = .none ∧ Q obj s3) E (.ok f) s2 | .again c => c.quiet = true ∧ codeAny (model prog w) A.in1 c (wants (fun r s3 => r = .none ∧ Q obj s3) E) s2)
        (fun e s2 => wants (fun r s3 => r = .none ∧ Q obj s3) E (.error e) s2) s1) : wpAny (model prog w) A (call (.type T) args) Q E s := by
  obtain ⟨cc, more, way⟩ := ft.mro
  have f1 := ft.made
  have f2 := ft.sub
  have f3 := ft.notType
  have f4 := ft.canCreate
  refine wpAny_call (codeAny_of_tree ?_)
  show wpAny _ _ (callAny (.type T) _) _ _ _
  refine wpAny_pure ⟨Code.quiet_builtin _ (by decide +kernel), codeAny_builtin F.entry_type_call ?_⟩
  rw [Around.under_plain (weight_type_call_type T args []) rfl]
  repeat (any_goals (first | assumption | wp_step))
  refine codeAny_mono new fun r s1 h1 => ?_
  rcases r with e | fl
  · exact h1
  rcases fl with _ | _ | _ | obj
  case ret =>
    obtain ⟨tis, chk, body⟩ := next _ _ h1
    have f5 := ft.init.lookup
    have f6 := ft.init.bind obj
    repeat (any_goals (first | assumption | wp_step))
    refine codeAny_mono (codeAny_call_builtin (R := wants (fun r s3 => r = .none ∧ Q obj s3) E) ft.init.plain ent (chk _ _ _ body)) fun r2 s2 h2 => ?_
    rcases r2 with e | fl2
    · exact h2
    rcases fl2 with _ | _ | _ | r
    case ret =>
      obtain ⟨rfl, hq⟩ := h2
      repeat (any_goals (first | assumption | wp_step))
    all_goals exact h2.elim
  all_goals exact h1.elim
/-- set(xs) of a list or a tuple of texts -/
theorem call_set_texts {l : Addr} {its : Array Value} {xs : List Str} {Q : Value → Shared → Prop} (hA : A.handled = none) (hl : s.heap.IsList l its ∨ s.heap.IsTuple l its) (hi : StrsAre its.toList xs) (few : xs.length < 4000)
    (hQ : ∀ h2 tk, h2.SetOf (PySem.strKind prog w) s.heap.objs.size (fun k => xs.contains k) (unlike [] xs) → (∀ b o, s.heap.get? b = some o → h2.get? b = some o) → Q (.ref s.heap.objs.size) { s with heap := h2, toks := tk }) :
    wpAny (model prog w) A (call (.type "set") [.ref l]) Q E s := by
  refine call_class (Q1 := fun obj s1 => ∃ led : Bool, obj = .ref s.heap.objs.size ∧ s1 = { s with heap := s.heap.push { cls := .type "set", dict := none, data := .set #[] 0 (.fresh 0 0 led) } }) PySem.F.called_set (PySem.F.typeCall_set_1 _) PySem.F.entry_set_init
    (code_set_new_1 _ fun led => ⟨led, rfl, rfl⟩) ?_
  rintro obj s1 ⟨led, rfl, rfl⟩
  have at_ : (s.heap.push { cls := .type "set", dict := none, data := .set #[] 0 (.fresh 0 0 led) }).get? s.heap.objs.size = some { cls := .type "set", dict := none, data := .set #[] 0 (.fresh 0 0 led) } := Heap.get?_push_size _ rfl
  have hT : Shared.TypeIs { s with heap := s.heap.push { cls := .type "set", dict := none, data := .set #[] 0 (.fresh 0 0 led) } } (.ref s.heap.objs.size) "set" := ⟨_, at_, rfl⟩
  refine ⟨hT, fun B E' K k => check_set_init_1 hT k, ?_⟩
  have szx : its.size = xs.length := by rw [← StrsAre.len_eq hi, Array.length_toList]
  have told : ∀ (i : Nat) (v : Value), its[i]? = some v → ∃ x t, xs[i]? = some x ∧ v = .str x t := fun i v hv => texts_at hi i v (by rw [Array.getElem?_toList]; exact hv)
  have hh3 : A.in1.in1.in1.handled = none := by simp [hA]
  -- the rounds, where the iterator stands
  have rounds : ∀ {it : Obj} {fp : List Addr} {Sk : Nat → Heap → Prop}, Walks prog w A.in1.in1.in1 (s.heap.objs.size + 1) fp [s.heap.objs.size + 1] its.size (fun i v => its[i]? = some v) Sk → s.heap.objs.size ∉ fp →
      Sk 0 ((s.heap.push { cls := .type "set", dict := none, data := .set #[] 0 (.fresh 0 0 led) }).push it) →
      codeAny (model prog w) A.in1.in1 (.builtin "set.update.loop" ⟨[.ref s.heap.objs.size, .ref (s.heap.objs.size + 1)], []⟩) (wants (fun r s2 => r = .none ∧ Q (.ref s.heap.objs.size) s2) E) { s with heap := (s.heap.push { cls := .type "set", dict := none, data := .set #[] 0 (.fresh 0 0 led) }).push it } := fun {it fp Sk} W off st0 => by
    refine fill (A := A.in1.in1) (all := xs) (szx ▸ W.toS) off few told xs [] 0 _ rfl (Nat.le_refl _) st0 ?_ fun s2 mv hs => ?_
    · have get := Heap.get?_push_of_some it at_
      exact SetOf_congr ((setObjOf_fresh (knd := PySem.strKind prog w) led).setOf get (by unfold scanBound; omega)) (fun _ => rfl) rfl
    · obtain ⟨h2, g2, d2, t2, o2⟩ := s2
      have eg : g2 = s.gens := mv.gens
      have ed : d2 = s.drawn := mv.drawn
      have eo : o2 = s.os := mv.os
      subst eg; subst ed; subst eo
      rw [Nat.zero_add] at hs
      refine ⟨rfl, hQ h2 t2 hs fun b o e => ?_⟩
      have lt := Heap.lt_size e
      refine mv.heap b o ?_ (Heap.get?_push_of_some _ (Heap.get?_push_of_some _ e))
      simp only [List.mem_cons, List.not_mem_nil, or_false, not_or]
      exact ⟨Nat.ne_of_lt lt, Nat.ne_of_lt (Nat.lt_succ_of_lt lt)⟩
  have low : l < s.heap.objs.size := by
    rcases hl with ⟨o, e, _⟩ | ⟨o, e, _⟩ <;> exact Heap.lt_size e
  have szs : (s.heap.push { cls := .type "set", dict := none, data := .set #[] 0 (.fresh 0 0 led) }).objs.size = s.heap.objs.size + 1 := Heap.size_push _ _
  unfold Builtin.«set.__init__» noKeywords
  rcases hl with hl | hl
  · have hl1 := hl.push { cls := .type "set", dict := none, data := .set #[] 0 (.fresh 0 0 led) }
    have n1 := PySem.F.sub_list_set
    have n2 := PySem.F.sub_list_frozenset
    have n3 : (Value.type "list" == Value.type "dict") = false := by decide
    obtain ⟨⟨c1, c2, c3, c4⟩, hol, hcl, nl, hdl⟩ := hl
    simp only at hcl hdl
    subst hcl hdl
    have hol1 := Heap.get?_push_of_some { cls := .type "set", dict := none, data := .set #[] 0 (.fresh 0 0 led) } hol
    unfold Builtin.Frozenset.updateFrom
    generalize hPI : pyIter = PI
    wp_walk
    subst hPI
    refine wpAny_pyIter_list hl1 (wpAny_bind (wpAny_runValue ?_))
    have top : ((s.heap.push { cls := .type "set", dict := none, data := .set #[] 0 (.fresh 0 0 led) }).push { cls := .type "list_iterator", data := .fields #[.ref l, .int 0 0] }).get? (s.heap.objs.size + 1) = some { cls := .type "list_iterator", data := .fields #[.ref l, .int 0 0] } := by
      rw [← szs]; exact Heap.get?_push_size _ rfl
    rw [szs]
    refine codeAny_mono (rounds (Walks.list hh3 _ l (Nat.ne_of_lt (Nat.lt_succ_of_lt low)) its) ?_ ⟨⟨_, top, rfl, rfl⟩, hl1.push _⟩) fun r s2 h2 => ?_
    · simp only [List.mem_cons, List.not_mem_nil, or_false, not_or]
      exact ⟨Nat.ne_of_lt (Nat.lt_succ_self _), Nat.ne_of_gt low⟩
    · rcases r with e | fl
      · exact h2
      rcases fl with _ | _ | _ | v
      case ret =>
        obtain ⟨_, q⟩ := h2
        exact wpAny_pure (wpAny_pure ⟨rfl, q⟩)
      all_goals exact h2.elim
  · have hl1 := Heap.IsTuple.push hl { cls := .type "set", dict := none, data := .set #[] 0 (.fresh 0 0 led) }
    have n1 := PySem.F.sub_tuple_set
    have n2 := PySem.F.sub_tuple_frozenset
    have n3 : (Value.type "tuple" == Value.type "dict") = false := by decide
    obtain ⟨⟨c1, c2, c3, c4⟩, hol, hcl, nl, hdl⟩ := hl
    simp only at hcl hdl
    subst hcl hdl
    have hol1 := Heap.get?_push_of_some { cls := .type "set", dict := none, data := .set #[] 0 (.fresh 0 0 led) } hol
    unfold Builtin.Frozenset.updateFrom
    generalize hPI : pyIter = PI
    wp_walk
    subst hPI
    refine wpAny_pyIter_tuple hl1 (wpAny_bind (wpAny_runValue ?_))
    have top : ((s.heap.push { cls := .type "set", dict := none, data := .set #[] 0 (.fresh 0 0 led) }).push { cls := .type "tuple_iterator", data := .fields #[.ref l, .int 0 0] }).get? (s.heap.objs.size + 1) = some { cls := .type "tuple_iterator", data := .fields #[.ref l, .int 0 0] } := by
      rw [← szs]; exact Heap.get?_push_size _ rfl
    rw [szs]
    refine codeAny_mono (rounds (Walks.tuple hh3 _ l (Nat.ne_of_lt (Nat.lt_succ_of_lt low)) its) ?_ ⟨⟨_, top, rfl, rfl⟩, Heap.IsTuple.push hl1 _⟩) fun r s2 h2 => ?_
    · simp only [List.mem_cons, List.not_mem_nil, or_false, not_or]
      exact ⟨Nat.ne_of_lt (Nat.lt_succ_self _), Nat.ne_of_gt low⟩
    · rcases r with e | fl
      · exact h2
      rcases fl with _ | _ | _ | v
      case ret =>
        obtain ⟨_, q⟩ := h2
        exact wpAny_pure (wpAny_pure ⟨rfl, q⟩)
      all_goals exact h2.elim
end
end GN
namespace GN
open PySem PySem.Spec PyProof.Rows L2
section
variable {X : Cx}
theorem texts_of : ∀ {xs : List Str} {us : List Value}, Vals (xs.map V.str) us → StrsAre us xs
  | [], _, .nil => .nil
  | _ :: _, _, .cons ⟨k, e⟩ t => by
    subst e
    exact .cons _ k (texts_of t)
/-- len(set(xs)) of texts -/
def tUnlike (K : PySem.W.Frag) (ta : TE) : TE := fun σ H Q => ta σ H fun x H1 => ∃ (l : Addr) (xs : List Str), x = .ref l ∧ (SqL K H1 l (xs.map V.str) ∨ SqT K H1 l (xs.map V.str)) ∧ xs.length < 4000 ∧ Q (.int (unlike [] xs)) H1
theorem pe_unlike {a : Expr} {ta : TE} {p p2 q pos : Pos} (hc : X.calm = true) (g1 : Gl X "len") (m1 : X.mg "len" = none) (g2 : Gl X "set") (m2 : X.mg "set" = none) (ha : PE X a ta)
    (na : starEach [a] X.env = (false, eval a X.env) :: starEach [] X.env) : PE X (.Call (.Name "len" p) [.Call (.Name "set" p2) [a] [] q] [] pos) (tUnlike X.K ta) := by
  refine ⟨fun pins s σ H Q I h => Call_ (ld_blt I g1 m1 boot_len ?_)⟩
  refine PyProof.Rows.callWith_builtin1 (PyProof.Rows.args_cons (Call_ (ld_blt I g2 m2 boot_set ?_)) rfl) rfl rfl
  refine PyProof.Rows.callWith_type1 (PyProof.Rows.args_cons (thn (ha.run pins s σ H _ I h) fun v s1 ⟨x, H1, I1, r1, l, xs, e1, sq, few, k⟩ => PyProof.Rows.args_nil ?_) na) na rfl
  subst e1
  cases r1
  obtain ⟨its, rv, pl⟩ : ∃ its : List Value, Vals (xs.map V.str) its ∧ (s1.heap.IsList l its.toArray ∨ s1.heap.IsTuple l its.toArray) := by
    rcases sq with sq | sq
    · obtain ⟨its, r, pl, _⟩ := I1.list sq
      exact ⟨its, r, .inl pl.isList⟩
    · obtain ⟨its, r, pl, _⟩ := I1.tuple sq
      exact ⟨its, r, .inr pl⟩
  refine call_set_texts (I1.ok.hd hc) pl (texts_of (by simpa using rv)) few fun h2 tk ⟨o, es, ep, t, e2, ex, dt, _, _, _, ft, sz⟩ keep => PyProof.Rows.args_nil ?_
  have small : unlike [] xs < 4000 := Nat.lt_of_le_of_lt (unlike_le _ _) few
  refine call_len_set e2 ex dt ft (by omega) ⟨.int (unlike [] xs), H1, (I1.kept (t' := tk) keep).tok _, ⟨_, by rw [sz]⟩, k⟩
end
end GN
namespace GN
open PySem PySem.Spec PyProof.Rows L2 G
section
variable {X : Cx}
/-- tuple(xs) of a list: the new tuple has no dict of its own -/
theorem call_htuple : CallR X (.type "tuple") (fun xs H Q => ∃ p ys, xs = [.ref p] ∧ SqL X.K H p ys ∧ ∀ l o, H l = none → o.dict = none → Q (.ref l) (upd H l (.frz o (.tup ys)))) := by
  intro pins s σ H xs us Q I r h
  obtain ⟨p, ys, rfl, hq, k⟩ := h
  obtain ⟨u, rfl, rx⟩ := vals1 r
  cases rx
  obtain ⟨its, rv, pl, hz⟩ := I.list hq
  have hl := rv.length
  refine call_tuple_list pl.isList (fun h2 keep => ?_) (by simp only [List.size_toArray] <;> omega)
  have I1 : Inv X pins σ H { s with heap := h2 } := I.kept (t' := s.toks) keep
  have new : Heap.get? (h2.push { cls := .type "tuple", data := .seq its.toArray }) h2.objs.size = some { cls := .type "tuple", data := .seq its.toArray } := Heap.get?_push_size _ rfl
  refine ⟨.ref h2.objs.size, upd H h2.objs.size (.frz { cls := .type "tuple", data := .seq its.toArray } (.tup ys)), I1.laid (t' := s.toks) (fun b o e => Heap.get?_push_of_some _ e) (Nat.le_refl _) ?_, rfl, k _ _ (I1.hok.fresh (Nat.le_refl _)) rfl⟩
  exact ⟨new, hz, its, rv, ⟨_, new, rfl, _, rfl⟩⟩
def tHtup (ta : TA) : TE := fun σ H Q => ta σ H fun vs H1 => vs.length ≤ sizeLine ∧ ∀ p o, H1 p = none → o.dict = none → Q (.ref p) (upd H1 p (.frz o (.tup vs)))
/-- (a, b, ..): the new tuple has no dict of its own -/
theorem pe_htup {es : List Expr} {t : TA} {k : Nat} {pos : Pos} (h : PA X es t) : PE X (.Tuple es k pos) (tHtup t) := by
  refine ⟨fun pins s σ H Q I q => wpAny_Tuple_spliced (thn (h.run pos pins s σ H _ I q) fun us s1 ⟨vs, H1, I1, r, z, kq⟩ => ⟨by rw [← r.length]; exact z, ?_⟩)⟩
  have fr : H1 s1.heap.objs.size = none := I1.hok.fresh (Nat.le_refl _)
  have new : Heap.get? (s1.heap.push { cls := .type "tuple", data := .seq us.toArray }) s1.heap.objs.size = some { cls := .type "tuple", data := .seq us.toArray } := Heap.get?_push_size _ rfl
  refine ⟨.ref s1.heap.objs.size, upd H1 s1.heap.objs.size (.frz { cls := .type "tuple", data := .seq us.toArray } (.tup vs)), I1.laid (t' := s1.toks) (fun b u e => Heap.get?_push_of_some _ e) (Nat.le_refl _) ?_, rfl, kq _ _ fr rfl⟩
  exact ⟨new, z, us, r, ⟨_, new, rfl, _, rfl⟩⟩
theorem pairs_of2 {pins : List (Addr × Obj)} {σ : L2.St} {H : Hp} {s : Shared} (I : Inv X pins σ H s) : ∀ {ps : List Addr} {kvs : List (Key × V)}, Paired (fun p kv => SqT X.K H p [kV kv.1, kv.2]) ps kvs →
    ∃ (prs : List (Key × Value)) (pv : List (Value × Value)), KV kvs prs ∧ prs.length = ps.length ∧ pv.length = ps.length ∧ ∀ (j : Nat) (u y : Value), pv[j]? = some (u, y) → ∃ b k, ps[j]? = some b ∧ IsTup s.heap b #[u, y] ∧ prs[j]? = some (k, y) ∧ keyIs k u = true
  | _, _, .nil => ⟨[], [], .nil, rfl, rfl, fun j u y e => by simp at e⟩
  | _, _, .cons (a := p) (b := kv) h t => by
    obtain ⟨prs, pv, r, h1, h2, h3⟩ := pairs_of2 I t
    obtain ⟨its, rv, ht, _⟩ := I.tuple h
    obtain ⟨u, y, ei, ru, ry⟩ := vals2 rv
    subst ei
    refine ⟨(kv.1, y) :: prs, (u, y) :: pv, .cons ⟨rfl, ry⟩ r, by simp [h1], by simp [h2], fun j u2 y2 e => ?_⟩
    rcases j with _ | j
    · simp only [List.getElem?_cons_zero, Option.some.injEq, Prod.mk.injEq] at e
      obtain ⟨rfl, rfl⟩ := e
      exact ⟨p, kv.1, rfl, ht, rfl, kV_is (P := X.prog) (w := X.w) ru⟩
    · obtain ⟨b, k, e1, e2, e3, e4⟩ := h3 j u2 y2 (by simpa using e)
      exact ⟨b, k, by simpa using e1, e2, by simpa using e3, e4⟩
/-- dict(t) of a tuple of pairs that has no dict of its own -/
theorem call_dictH (hc : X.calm = true) : CallR X (.type "dict") (fun xs H Q => ∃ (a : Addr) (ps : List Addr) (kvs : List (Key × V)) (o : Obj), xs = [.ref a] ∧ H a = some (.frz o (.tup (ps.map V.ref))) ∧ o.dict = none ∧ Paired (fun p kv => SqT X.K H p [kV kv.1, kv.2]) ps kvs ∧
    ∀ p, H p = none → Q (.ref p) (upd H p (.dK (mergeK [] kvs)))) := by
  intro pins s σ H xs us Q I r q
  obtain ⟨a, ps, kvs, o, rfl, ha, hd, hp, k⟩ := q
  obtain ⟨u, rfl, rx⟩ := vals1 r
  cases rx
  obtain ⟨e1, z, its, rv, o2, e2, e3, n, e4⟩ := I.hok a _ ha
  rw [e1] at e2
  cases e2
  have ei := refs_at rv
  subst ei
  obtain ⟨prs, pv, rel, hl, hl2, at_⟩ := pairs_of2 I hp
  rw [List.length_map] at z
  have hl3 : kvs.length = ps.length := by rw [rel.length, hl]
  refine PySem.call_dict_pairs (knd := mixKind X.prog X.w) (PairArg.tuple a (ps.map Value.ref).toArray (fun j => ps.getD j 0) pv) (I.ok.hd hc) ⟨⟨o, n, e1, e3, hd, e4⟩, by simp [hl2], fun j u y e => ?_⟩ (kvs := prs) ⟨by rw [hl, hl2], fun i key v e => ?_⟩ (by rw [hl2]; exact z) fun h2 tk hd2 keep => ?_
  · obtain ⟨b, kk, f1, f2, f3, f4⟩ := at_ j u y e
    refine ⟨by simp [f1], .inl ?_⟩
    show s.heap.IsTuple (ps.getD j 0) #[u, y]
    rw [List.getD_eq_getElem?_getD, f1]
    exact f2
  · obtain ⟨b, kk, f1, f2, f3, f4⟩ := at_ i key v e
    exact ⟨kk, f3, f4⟩
  · have big : (s.heap.objs.size == sysModules) = false := beq_eq_false_iff_ne.mpr (Nat.ne_of_gt I.big)
    have few : (mergeK [] kvs).length ≤ sizeLine := Nat.le_trans (length_mergeK kvs []) (by rw [List.length_nil, Nat.zero_add, hl3]; exact z)
    exact ⟨.ref s.heap.objs.size, upd H s.heap.objs.size (.dK (mergeK [] kvs)), I.laid (t' := tk) (fun b ob e => keep b ob (fun q => nomatch q) e) (Nat.le_refl _) (show ObjOk X.prog X.w _ _ _ (.dK (mergeK [] kvs)) from ⟨few, big, merged [] prs, KV.merge rel .nil, hd2⟩), rfl, k _ (I.hok.fresh (Nat.le_refl _))⟩
end
/-! texts of numbers -/
theorem int_text (i : Int) : (toString i : Str) = G.strOf (intStr i) := by
  have nat : ∀ n : Nat, (Nat.repr n).toList = Nat.toDigits 10 n := fun n => by simp [Nat.repr]
  show Str.ofString (toString i) = _
  rw [Str.ofString_eq_toList]
  unfold G.strOf intStr digits
  congr 1
  cases i with
  | ofNat n =>
    rw [if_neg (by simp)]
    show (List.map Char.toNat (Nat.repr n).toList).toArray = _
    rw [nat]; rfl
  | negSucc n =>
    rw [if_pos (Int.negSucc_lt_zero n)]
    show (List.map Char.toNat ("-" ++ Nat.repr (n + 1)).toList).toArray = _
    rw [String.toList_append, List.map_append, nat]
    rfl
theorem int_small (i : Int) : okS (intStr i) := by
  have low : ∀ n : Nat, okS (digits n) := fun n c hc => by
    unfold digits at hc
    obtain ⟨d, _, rfl⟩ := List.mem_map.mp hc
    have := d.valid
    unfold Char.toNat
    rcases this with h | h
    · exact Nat.lt_trans h (by decide)
    · exact h.2
  unfold intStr
  split
  · intro c hc
    rcases List.mem_cons.mp hc with rfl | hc
    · decide
    · exact low _ c hc
  · exact low _
/-! sorted texts -/
theorem slt_dec : ∀ (x y : List Nat), slt x y = decide (x < y)
  | [], [] => by simp [slt]
  | _ :: _, [] => by simp [slt]
  | [], _ :: _ => by simp [slt]
  | a :: x, b :: y => by
    simp only [slt, slt_dec x y, List.cons_lt_cons_iff, Bool.if_true_left]
    by_cases h : a < b
    · simp [h]
    · by_cases h2 : b < a
      · have : ¬ a = b := by omega
        simp [h, h2, this]
      · have : a = b := by omega
        simp [this]
theorem sins_perm (x : List Nat) : ∀ l, (sins x l).Perm (x :: l)
  | [] => .refl _
  | y :: l => by
    simp only [sins]
    split
    · exact ((sins_perm x l).cons y).trans (.swap x y l)
    · exact .refl _
theorem ssort_perm : ∀ l, (ssort l).Perm l
  | [] => .refl _
  | x :: l => (sins_perm x _).trans ((ssort_perm l).cons x)
abbrev LeL (a b : List Nat) : Prop := ¬ b < a
theorem sins_pair (x : List Nat) : ∀ l : List (List Nat), l.Pairwise LeL → (sins x l).Pairwise LeL
  | [], _ => by simp [sins]
  | y :: l, h => by
    obtain ⟨h1, h2⟩ := List.pairwise_cons.mp h
    simp only [sins]
    split
    · rename_i c
      rw [slt_dec] at c
      have c : y < x := by simpa using c
      refine List.pairwise_cons.mpr ⟨fun z hz => ?_, sins_pair x l h2⟩
      rcases List.mem_cons.mp ((sins_perm x l).mem_iff.mp hz) with rfl | hz
      · exact List.lt_asymm c
      · exact h1 z hz
    · rename_i c
      rw [slt_dec] at c
      have c : ¬ y < x := by simpa using c
      refine List.pairwise_cons.mpr ⟨fun z hz => ?_, h⟩
      rcases List.mem_cons.mp hz with rfl | hz
      · exact c
      · exact fun q => h1 z hz (by
          rcases Decidable.em (z < y) with c2 | c2
          · exact c2
          · exact absurd (List.not_lt.mp c2 |> fun le => List.lt_of_le_of_lt le q) c)
theorem ssort_pair : ∀ l, (ssort l).Pairwise LeL
  | [] => .nil
  | x :: l => sins_pair x _ (ssort_pair l)
theorem rising_pair : ∀ (l : List Str) (p : Str), risingS p l = true → (∀ x y : Str, (ltCps x.cps.toList y.cps.toList = true ↔ x.cps.toList < y.cps.toList)) → (p :: l).Pairwise fun a b => ¬ b.cps.toList < a.cps.toList
  | [], p, _, _ => by simp
  | x :: l, p, h, lt => by
    simp only [risingS, Bool.and_eq_true, Bool.not_eq_true'] at h
    have ih := rising_pair l x h.2 lt
    have hx : ¬ x.cps.toList < p.cps.toList := fun q => by
      have := (lt x p).mpr q
      rw [h.1] at this; cases this
    refine List.pairwise_cons.mpr ⟨fun z hz => ?_, ih⟩
    rcases List.mem_cons.mp hz with rfl | hz
    · exact hx
    · have := (List.pairwise_cons.mp ih).1 z hz
      exact fun q => hx (List.lt_of_le_of_lt (List.not_lt.mp this) q)
theorem lt_cps : ∀ (x y : List Nat), ltCps x y = true ↔ x < y
  | [], [] => by simp [ltCps]
  | [], _ :: _ => by simp [ltCps]
  | _ :: _, [] => by simp [ltCps]
  | a :: x, b :: y => by
    simp only [ltCps, List.cons_lt_cons_iff, Bool.or_eq_true, Bool.and_eq_true, decide_eq_true_eq, beq_iff_eq, lt_cps x y]
theorem sorted_is {ns : List (List Nat)} {ys : List Str} (pm : ys.Perm (ns.map G.strOf)) (so : sortedS ys = true) : ys = (ssort ns).map G.strOf := by
  have p1 : (ys.map fun y => y.cps.toList).Pairwise LeL := by
    rw [List.pairwise_map]
    cases ys with
    | nil => exact .nil
    | cons y ys => exact rising_pair ys y so fun a b => lt_cps _ _
  have p2 : (ys.map fun y => y.cps.toList).Perm ns := by
    have := pm.map fun y : Str => y.cps.toList
    rw [List.map_map] at this
    have e : (fun y : Str => y.cps.toList) ∘ G.strOf = id := by funext l; simp [G.strOf]
    rwa [e, List.map_id] at this
  have p3 : (ys.map fun y => y.cps.toList) = ssort ns := (p2.trans (ssort_perm ns).symm).eq_of_pairwise (le := LeL) (fun a b _ _ h1 h2 => List.le_antisymm (List.not_lt.mp h1) (List.not_lt.mp h2)) p1 (ssort_pair ns)
  rw [← p3, List.map_map]
  have e : G.strOf ∘ (fun y : Str => y.cps.toList) = id := by funext l; simp [G.strOf]
  rw [e, List.map_id]
theorem reps_texts {C : Cn} {ρ : List Addr} {H : Hp} : ∀ (ns : List (List Nat)), (∀ l ∈ ns, okS l) → Reps C ρ H (ns.map .str) ((ns.map G.strOf).map V.str)
  | [], _ => by simp only [List.map_nil, Reps]
  | n :: ns, h => by
    simp only [List.map_cons]
    exact Reps.mk (Rep.mkS (h n List.mem_cons_self)) (reps_texts ns fun l hl => h l (List.mem_cons_of_mem _ hl))
/-! dicts -/
section
variable {X : Cx} {C : Cn} {ρ : List Addr} {H : Hp}
/-- told pair by pair -/
def RepP (C : Cn) (ρ : List Addr) (H : Hp) : List (List Nat × W) → List (Key × V) → Prop := fun ps kvs => kvs.map (·.1) = (ps.map (·.1)).map (fun l => Sum.inr (G.strOf l)) ∧ Reps C ρ H (ps.map (·.2)) (kvs.map (·.2))
theorem pairs_rep (hX : X.K = C.K) : ∀ {ys : List W} {vs : List V} {ps : List (List Nat × W)}, Reps C ρ H ys vs → pairsOf ys = some ps → ∃ (as : List Addr) (kvs : List (Key × V)), vs = as.map V.ref ∧ Paired (fun p kv => SqT X.K H p [kV kv.1, kv.2]) as kvs ∧ RepP C ρ H ps kvs := by
  intro ys
  induction ys with
  | nil =>
    intro vs ps r e
    simp only [G.pairsOf, Option.some.injEq] at e; subst e
    exact ⟨[], [], r.nil', .nil, rfl, by simp only [List.map_nil, Reps]⟩
  | cons y ys ih =>
    intro vs ps r e
    obtain ⟨v, us, rfl, r1, r2⟩ := r.cons'
    have two : ∀ (k : List Nat) (x : W), (y = .tup [.str k, x] ∨ y = .htup [.str k, x]) → (pairsOf ys).map ((k, x) :: ·) = some ps → ∃ (as : List Addr) (kvs : List (Key × V)), v :: us = as.map V.ref ∧ Paired (fun p kv => SqT X.K H p [kV kv.1, kv.2]) as kvs ∧ RepP C ρ H ps kvs := fun k x hy e => by
      obtain ⟨qs, e1, rfl⟩ := Option.map_eq_some_iff.mp e
      obtain ⟨as, kvs, rfl, h1, h2, h3⟩ := ih r2 e1
      have r1' : Rep C ρ H (.tup [.str k, x]) v := by
        rcases hy with rfl | rfl
        · exact r1
        · exact Rep.soft (.htup [.str k, x]) _ r1
      obtain ⟨p, ws, rfl, q, r3⟩ := r1'.tup
      obtain ⟨a, ws2, rfl, a1, a2⟩ := r3.cons'
      obtain ⟨b, ws3, rfl, b1, b2⟩ := a2.cons'
      have := b2.nil'; subst this
      obtain ⟨rfl, ok⟩ := a1.str
      refine ⟨p :: as, (Sum.inr (G.strOf k), b) :: kvs, rfl, .cons (hX ▸ q.sq) h1, ?_, ?_⟩
      · simp only [List.map_cons, h2]
      · exact Reps.mk b1 h3
    unfold G.pairsOf at e
    split at e
    · rename_i q; cases q
    · rename_i q; cases q; exact two _ _ (.inl rfl) e
    · rename_i q; cases q; exact two _ _ (.inr rfl) e
    · cases e
theorem reps_upd : ∀ {ps : List (List Nat × W)} {kvs : List (Key × V)} (k : List Nat) {w : W} {v : V}, RepP C ρ H ps kvs → Rep C ρ H w v → RepP C ρ H (ps.map fun p => if p.1 = k then (p.1, w) else p) (kvs.map fun kv => if kv.1 = Sum.inr (G.strOf k) then (kv.1, v) else kv)
  | [], [], _, _, _, h, _ => h
  | [], _ :: _, _, _, _, h, _ => by simp [RepP] at h
  | _ :: _, [], _, _, _, h, _ => by simp [RepP] at h
  | p :: ps, kv :: kvs, k, w, v, h, r => by
    simp only [RepP, List.map_cons, List.cons.injEq] at h
    obtain ⟨⟨h1, h2⟩, h3⟩ := h
    obtain ⟨_, _, e, r1, r2⟩ := h3.cons'
    cases e
    have ih := reps_upd (ps := ps) (kvs := kvs) k ⟨h2, r2⟩ r
    have ek : (kv.1 = Sum.inr (G.strOf k)) ↔ p.1 = k := by
      rw [h1]
      constructor
      · intro e
        injection e with e
        have : (G.strOf p.1).cps.toList = (G.strOf k).cps.toList := by rw [e]
        simpa [G.strOf] using this
      · intro e; rw [e]
    refine ⟨?_, ?_⟩
    · have := ih.1
      simp only [List.map_cons]
      rw [this]
      by_cases c : p.1 = k
      · rw [if_pos c, if_pos (ek.mpr c)]; simp only [h1]
      · rw [if_neg c, if_neg (fun q => c (ek.mp q))]; simp only [h1]
    · simp only [List.map_cons]
      by_cases c : p.1 = k
      · rw [if_pos c, if_pos (ek.mpr c)]; exact Reps.mk r ih.2
      · rw [if_neg c, if_neg (fun q => c (ek.mp q))]; exact Reps.mk r1 ih.2
theorem any_key : ∀ {ps : List (List Nat × W)} {kvs : List (Key × V)} (k : List Nat), kvs.map (·.1) = (ps.map (·.1)).map (fun l => Sum.inr (G.strOf l)) → (kvs.any fun kv => decide (kv.1 = Sum.inr (G.strOf k))) = ps.any fun p => decide (p.1 = k)
  | [], [], _, _ => rfl
  | [], _ :: _, _, h => by simp at h
  | _ :: _, [], _, h => by simp at h
  | p :: ps, kv :: kvs, k, h => by
    simp only [List.map_cons, List.cons.injEq] at h
    have ek : (kv.1 = Sum.inr (G.strOf k)) ↔ p.1 = k := by
      rw [h.1]
      constructor
      · intro e
        injection e with e
        have : (G.strOf p.1).cps.toList = (G.strOf k).cps.toList := by rw [e]
        simpa [G.strOf] using this
      · intro e; rw [e]
    simp only [List.any_cons, any_key k h.2, ek]
theorem put_rep {ps : List (List Nat × W)} {kvs : List (Key × V)} (k : List Nat) {w : W} {v : V} (h : RepP C ρ H ps kvs) (r : Rep C ρ H w v) : RepP C ρ H (putS k w ps) (putK kvs (Sum.inr (G.strOf k)) v) := by
  unfold putS putK
  rw [any_key k h.1]
  split
  · exact reps_upd k h r
  · refine ⟨by rw [List.map_append, h.1]; simp, ?_⟩
    rw [List.map_append, List.map_append]
    exact h.2.app (Reps.one r)
theorem merge_rep : ∀ {ps : List (List Nat × W)} {kvs : List (Key × V)} {ds : List (List Nat × W)} {dv : List (Key × V)}, RepP C ρ H ps kvs → RepP C ρ H ds dv → RepP C ρ H (ps.foldl (fun d p => putS p.1 p.2 d) ds) (mergeK dv kvs)
  | [], [], _, _, _, h => h
  | [], _ :: _, _, _, h, _ => by simp [RepP] at h
  | _ :: _, [], _, _, h, _ => by simp [RepP] at h
  | p :: ps, kv :: kvs, ds, dv, h, hd => by
    simp only [RepP, List.map_cons, List.cons.injEq] at h
    obtain ⟨⟨h1, h2⟩, h3⟩ := h
    obtain ⟨_, _, e, r1, r2⟩ := h3.cons'
    cases e
    have := put_rep p.1 hd r1
    rw [← h1] at this
    exact merge_rep (ps := ps) (kvs := kvs) ⟨h2, r2⟩ this
theorem dict_rep {s : ST} {ps : List (List Nat × W)} {kvs : List (Key × V)} {p : Addr} (S : SR C ρ H s) (hn : H p = none) (h : RepP C ρ H ps kvs) : Rep C ρ (upd H p (.dK (mergeK [] kvs))) (dctOf ps) (.ref p) := by
  have m := merge_rep (ds := []) (dv := []) h ⟨rfl, by simp only [List.map_nil, Reps]⟩
  unfold dctOf
  simp only [Rep]
  exact ⟨p, mergeK [] kvs, rfl, S.fresh' hn, upd_same, m.1, Reps.mono (Gr.new hn) _ _ m.2⟩
end
end GN

set_option Elab.async false
set_option linter.all false
set_option autoImplicit false
set_option maxRecDepth 100000
set_option maxHeartbeats 4000000
/-! GO: slices with a step. -/
namespace GN
open PySem PySem.Spec PyProof.Rows L2 G
section
variable {X : Cx}
theorem pick_vals {xs : List V} {its : List Value} (r : Vals xs its) (lo hi : Option Int) (k : Int) : Vals (cutX xs lo hi k) (slicePick its.toArray lo hi (some k)).toList := by
  have row : ∀ l : List Nat, Vals (l.filterMap (xs[·]?)) (l.filterMap (its.toArray[·]?)) := fun l => by
    induction l with
    | nil => exact .nil
    | cons i l ih =>
      simp only [List.filterMap_cons]
      cases e : xs[i]? with
      | none =>
        have : its.toArray[i]? = none := by
          have h := List.getElem?_eq_none_iff.mp e
          rw [r.length] at h
          simpa using h
        rw [this]; exact ih
      | some x =>
        obtain ⟨u, e2, e3⟩ := r.get e
        have : its.toArray[i]? = some u := by simpa using e2
        rw [this]; exact .cons e3 ih
  unfold cutX slicePick
  rw [List.size_toArray, ← r.length]
  exact row _
theorem cut_len {α : Type} (xs : List α) (lo hi : Option Int) (k : Int) : (cutX xs lo hi k).length ≤ xs.length := by
  unfold cutX
  refine Nat.le_trans (List.length_filterMap_le _ _) (sliceRange_length_le _ _ _ _ (fun h => ?_) fun h => ?_)
  · have hk : 0 < k := h
    unfold sliceBounds
    simp only [Option.getD_some, gt_iff_lt, hk, if_true]
    constructor
    · cases lo <;> simp only [] <;> omega
    · cases hi <;> simp only [] <;> omega
  · have hk : ¬ 0 < k := h
    unfold sliceBounds
    simp only [Option.getD_some, gt_iff_lt, hk, if_false]
    constructor
    · cases lo <;> simp only [] <;> omega
    · cases hi <;> simp only [] <;> omega
theorem pick_rep {C : Cn} {ρ : List Addr} {H : Hp} {ws : List W} {vs : List V} (r : Reps C ρ H ws vs) : ∀ l : List Nat, Reps C ρ H (l.filterMap (ws[·]?)) (l.filterMap (vs[·]?))
  | [] => by simp only [List.filterMap_nil, Reps]
  | i :: l => by
    have ih := pick_rep r l
    simp only [List.filterMap_cons]
    cases e : ws[i]? with
    | none =>
      have : vs[i]? = none := by
        have h := List.getElem?_eq_none_iff.mp e
        rw [r.length] at h
        exact List.getElem?_eq_none h
      rw [this]; exact ih
    | some w =>
      obtain ⟨v, e2, e3⟩ := r.get e
      rw [e2]; exact Reps.mk e3 ih
theorem strOf_inj {a b : List Nat} (h : G.strOf a = G.strOf b) : a = b := by
  have : (G.strOf a).cps.toList = (G.strOf b).cps.toList := by rw [h]
  simpa [G.strOf] using this
theorem unlike_is : ∀ (ns seen : List (List Nat)), unlike (seen.map G.strOf) (ns.map G.strOf) = unl seen ns
  | [], _ => rfl
  | n :: ns, seen => by
    have ih := unlike_is ns (seen ++ [n])
    rw [List.map_append] at ih
    simp only [List.map_cons, unlike, unl]
    rw [show seen.map G.strOf ++ [G.strOf n] = seen.map G.strOf ++ [n].map G.strOf from rfl] at *
    rw [ih]
    congr 1
    have : ((seen.map G.strOf).contains (G.strOf n) = true) ↔ n ∈ seen := by
      simp only [List.contains_eq_mem, List.mem_map, decide_eq_true_eq]
      exact ⟨fun ⟨a, h1, h2⟩ => strOf_inj h2 ▸ h1, fun h => ⟨n, h, rfl⟩⟩
    by_cases c : n ∈ seen
    · rw [if_pos (this.mpr c), if_pos c]
    · rw [if_neg (fun q => c (this.mp q)), if_neg c]
/-- xs[lo:hi:k], k written -/
def tStep (K : PySem.W.Frag) (k : Int) (te : TE) (tl th : TO) : TE := fun σ H Q => te σ H fun x H1 => tl σ H1 fun lo H2 => th σ H2 fun hi H3 => ∃ a xs, x = .ref a ∧ SqL K H3 a xs ∧ ∀ p, H3 p = none → Q (.ref p) (upd H3 p (.lst (cutX xs lo hi k)))
theorem pe_step {e st : Expr} {l h : Option Expr} {te : TE} {tl th ts : TO} {k : Int} {p3 pos : Pos} (he : PE X e te) (hl : PO X l tl) (hh : PO X h th) (hs : PO X (some st) ts) (hk : ∀ σ H, ts σ H fun o H2 => o = some k ∧ H2 = H) (k0 : k ≠ 0) :
    PE X (.Subscript e (.Slice l h (some st) p3) pos) (tStep X.K k te tl th) := by
  refine ⟨fun pins s σ H Q I q => Subscript_ (thn (he.run pins s σ H _ I q) fun v s1 ⟨x, H1, I1, r1, q1⟩ => ?_)⟩
  refine wpAny_Slice (thn (hl.run pins s1 σ H1 _ I1 q1) fun vl s2 ⟨lo, H2, I2, pl, q2⟩ => thn (hh.run pins s2 σ H2 _ I2 q2) fun vh s3 ⟨hi, H3, I3, ph, a, xs, ex, hx, q3⟩ => ?_)
  subst ex
  cases r1
  refine thn (hs.run pins s3 σ H3 _ I3 (hk σ H3)) fun vs s4 ⟨o, H4, I4, ps, eo, e4⟩ => ?_
  subst eo e4
  have I5 : Inv X pins σ H4 { s4 with heap := s4.heap.push { cls := .type "slice", data := .fields #[vl, vh, vs] } } := I4.kept (t' := s4.toks) fun b ob z => Heap.get?_push_of_some _ z
  obtain ⟨its, r, pl5, hz⟩ := I5.list hx
  have hlen := r.length
  show wpAny (model X.prog X.w) X.A (subscriptTail e (.Slice l h (some st) p3) (.ref a) (.ref s4.heap.objs.size)) (EP X pins σ Q) X.xe { s4 with heap := s4.heap.push { cls := .type "slice", data := .fields #[vl, vh, vs] } }
  refine tail_any (ops := [.ref a, .ref s4.heap.objs.size]) pl5.isList.typeIs (PySem.slot_list_getitem.lookup) ?_ (by with_unfolding_all rfl)
  refine wpAny_getItem_list_slice pl5.isList (Heap.IsSliceOf.new _ vl vh vs) pl ph ps (fun z => k0 (Option.some.inj z)) ?_ (by rw [List.size_toArray]; omega)
  refine ⟨.ref _, _, I5.laid (t' := s4.toks) (o := .lst (cutX xs lo hi k)) (fun b ob z => Heap.get?_push_of_some _ z) (Nat.le_refl _) ?_, rfl, q3 _ (I5.hok.fresh (Nat.le_refl _))⟩
  exact ⟨Nat.le_trans (cut_len _ _ _ _) hz, _, 0, pick_vals r lo hi k, Heap.get?_push_size _ rfl⟩
end
end GN

set_option Elab.async false
set_option linter.all false
set_option autoImplicit false
set_option maxRecDepth 100000
set_option maxHeartbeats 4000000
/-! GZ: list(zip(a, b)). -/
namespace GN
open PySem PySem.Spec PyProof.Rows L2 G
section
variable {prog : Program} {w : World} {A : Around} {E : Value → Shared → Prop} {s : Shared} {z TI TO i1 i2 T : Addr} {fp1 fp2 : List Addr} {n1 n2 i : Nat} {P1 P2 : Nat → Value → Prop} {St1 St2 : Nat → Heap → Prop} {f : Bool} {oT : Obj}
/-- the next pair of a zip whose last tuple is still out -/
theorem zip_more {Q : Value → Shared → Prop} (S : ZipSep2 z TI TO i1 i2 fp1 fp2) (D1 : Draws prog w A i1 fp1 n1 P1 St1) (D2 : Draws prog w A i2 fp2 n2 P2 St2) (hz : IsZipHeld s.heap z TI TO T f) (hT : s.heap.get? T = some oT) (hTI : IsTupOf2 s.heap TI (.ref i1) (.ref i2))
    (st1 : St1 i s.heap) (st2 : St2 i s.heap) (l1 : i < n1) (l2 : i < n2)
    (hQ : ∀ x y h2 tk, P1 i x → P2 i y → IsZipHeld h2 z TI TO T true → St1 (i + 1) h2 → St2 (i + 1) h2 → IsTupOf2 h2 s.heap.objs.size x y → (∀ c o, c ≠ z → c ≠ i1 → c ≠ i2 → s.heap.get? c = some o → h2.get? c = some o) → Q (.ref s.heap.objs.size) { s with heap := h2, toks := tk }) :
    wpAny (model prog w) A (Builtin.«zip.__next__» ⟨[.ref z], []⟩) (fun fin s2 => ∃ v, fin = .done (.ret v) ∧ Q v s2) E s := by
  obtain ⟨hp, g, d, t0, os⟩ := s
  show wpAny _ _ (field (.ref z) 2 >>= _) _ _ _
  refine wpAny_bind (wpAny_field hz rfl (x := .bool false) rfl ?_)
  show wpAny _ _ (field (.ref z) 3 >>= _) _ _ _
  refine wpAny_bind (wpAny_field hz rfl (x := .ref TI) rfl (wpAny_bind (wpAny_seqItems hTI rfl ?_)))
  show wpAny _ _ (Builtin.SmallTypes.ownedTupleIsFree (.ref z) >>= _) _ _ _
  refine wpAny_bind (wpAny_tupleHeld_zip hz hT fun a0 za sa => ?_)
  simp only [Bool.false_eq_true, if_false]
  refine wpAny_bind ?_
  rw [← Array.forIn_toList]
  simp only [List.forIn_cons, List.forIn_nil]
  refine wpAny_bind (wpAny_bind (wpAny_holding ?_))
  show wpAny _ _ (Builtin.SmallTypes.nextOf (.ref i1) >>= _) _ _ ⟨a0, g, d, t0, os⟩
  refine wpAny_bind (D1.item i _ _ _ l1 (D1.over st1 sa S.zf1) fun x a1 t1 hx s1 k1 => wpAny_pure (wpAny_pure ?_))
  replace k1 : Heap.SameBut i1 a0 a1 := k1
  refine wpAny_bind (wpAny_bind (wpAny_holding ?_))
  show wpAny _ _ (Builtin.SmallTypes.nextOf (.ref i2) >>= _) _ _ ⟨a1, g, d, t1, os⟩
  refine wpAny_bind (D2.item i _ _ _ l2 (D2.over (D2.over st2 sa S.zf2) k1 S.sep1_2) fun y a2 t2 hy s2 k2 => wpAny_pure (wpAny_pure (wpAny_pure ?_)))
  replace k2 : Heap.SameBut i2 a1 a2 := k2
  show wpAny _ _ (newTuple [x, y] >>= _) _ _ _
  refine wpAny_bind (wpAny_newTuple ?_)
  have sz : a2.objs.size = hp.objs.size := by rw [k2.1, k1.1, sa.1]
  have zz : IsZipHeld a2 z TI TO T true := k2.extBut _ _ S.zi2 (k1.extBut _ _ S.zi1 za)
  have kk : ∀ c o, c ≠ z → c ≠ i1 → c ≠ i2 → hp.get? c = some o → a2.get? c = some o := fun c o c1 c2 c3 e => k2.extBut _ _ c3 (k1.extBut _ _ c2 (sa.extBut _ _ c1 e))
  refine wpAny_pure ⟨_, rfl, ?_⟩
  show Q (.ref a2.objs.size) _
  have tp : IsTupOf2 (a2.push { cls := .type "tuple", data := .seq #[x, y] }) a2.objs.size x y := Heap.get?_push_size _ rfl
  rw [sz] at tp ⊢
  exact hQ x y _ _ hx hy (Heap.get?_push_of_some _ zz) (D1.frame _ _ _ (D1.over s1 k2 S.sep2_1) fun b _ o e => Heap.get?_push_of_some _ e) (D2.frame _ _ _ s2 fun b _ o e => Heap.get?_push_of_some _ e) tp fun c o c1 c2 c3 e => Heap.get?_push_of_some _ (kk c o c1 c2 c3 e)
/-- .. its end -/
theorem zip_stop {Q : Fin → Shared → Prop} (S : ZipSep2 z TI TO i1 i2 fp1 fp2) (D1 : Draws prog w A i1 fp1 n1 P1 St1) (D2 : Draws prog w A i2 fp2 n2 P2 St2) (hz : IsZipHeld s.heap z TI TO T f) (hT : s.heap.get? T = some oT) (hTI : IsTupOf2 s.heap TI (.ref i1) (.ref i2))
    (st1 : St1 i s.heap) (st2 : St2 i s.heap) (l1 : i ≤ n1) (l2 : i ≤ n2) (le : i = n1 ∨ i = n2)
    (hE : ∀ h2 tk e, (∀ c o, c ≠ z → c ≠ i1 → c ≠ i2 → s.heap.get? c = some o → h2.get? c = some o) → (∃ o, h2.get? e = some o ∧ o.cls = .type "StopIteration") → E (.ref e) { s with heap := h2, toks := tk }) :
    wpAny (model prog w) A (Builtin.«zip.__next__» ⟨[.ref z], []⟩) Q E s := by
  obtain ⟨hp, g, d, t0, os⟩ := s
  show wpAny _ _ (field (.ref z) 2 >>= _) _ _ _
  refine wpAny_bind (wpAny_field hz rfl (x := .bool false) rfl ?_)
  show wpAny _ _ (field (.ref z) 3 >>= _) _ _ _
  refine wpAny_bind (wpAny_field hz rfl (x := .ref TI) rfl (wpAny_bind (wpAny_seqItems hTI rfl ?_)))
  show wpAny _ _ (Builtin.SmallTypes.ownedTupleIsFree (.ref z) >>= _) _ _ _
  refine wpAny_bind (wpAny_tupleHeld_zip hz hT fun a0 za sa => ?_)
  simp only [Bool.false_eq_true, if_false]
  refine wpAny_bind ?_
  rw [← Array.forIn_toList]
  simp only [List.forIn_cons, List.forIn_nil]
  refine wpAny_bind (wpAny_bind (wpAny_holding ?_))
  show wpAny _ _ (Builtin.SmallTypes.nextOf (.ref i1) >>= _) _ _ ⟨a0, g, d, t0, os⟩
  by_cases c1 : i = n1
  · subst c1
    exact wpAny_bind (D1.done _ _ _ (D1.over st1 sa S.zf1) fun h2 e k he => hE h2 t0 e (fun c o z1 z2 _ q => k _ _ z2 (sa.extBut _ _ z1 q)) he)
  · have c2 : i = n2 := le.resolve_left c1
    subst c2
    refine wpAny_bind (D1.item i _ _ _ (by omega) (D1.over st1 sa S.zf1) fun x a1 t1 hx s1 k1 => wpAny_pure (wpAny_pure ?_))
    replace k1 : Heap.SameBut i1 a0 a1 := k1
    refine wpAny_bind (wpAny_bind (wpAny_holding ?_))
    show wpAny _ _ (Builtin.SmallTypes.nextOf (.ref i2) >>= _) _ _ ⟨a1, g, d, t1, os⟩
    exact wpAny_bind (D2.done _ _ _ (D2.over (D2.over st2 sa S.zf2) k1 S.sep1_2) fun h2 e k he => hE h2 t1 e (fun c o z1 z2 z3 q => k _ _ z3 (k1.extBut _ _ z2 (sa.extBut _ _ z1 q))) he)
end
end GN

set_option Elab.async false
set_option linter.all false
set_option autoImplicit false
set_option maxRecDepth 100000
set_option maxHeartbeats 4000000
namespace GN
open PySem PySem.Spec PyProof.Rows L2 G
/-- the tuples that were made: where they stand, of what -/
structure Made (P1 P2 : Nat → Value → Prop) (lo : Addr) (h : Heap) (as : List Addr) : Prop where
  rise : as.Pairwise (· < ·)
  above : ∀ a ∈ as, lo < a ∧ a < h.objs.size
  at_ : ∀ (j : Nat) (a : Addr), as[j]? = some a → ∃ x y, IsTupOf2 h a x y ∧ P1 j x ∧ P2 j y
section
variable {prog : Program} {w : World} {A : Around} {E : Value → Shared → Prop} {s : Shared} {z TI TO i1 i2 : Addr} {fp1 fp2 : List Addr} {n1 n2 : Nat} {P1 P2 : Nat → Value → Prop} {St1 St2 : Nat → Heap → Prop}
theorem Made.up {lo : Addr} {h h2 : Heap} {as : List Addr} (m : Made P1 P2 lo h as) (k : ∀ a ∈ as, ∀ o, h.get? a = some o → h2.get? a = some o) (sz : h.objs.size ≤ h2.objs.size) : Made P1 P2 lo h2 as :=
  ⟨m.rise, fun a ha => ⟨(m.above a ha).1, Nat.lt_of_lt_of_le (m.above a ha).2 sz⟩, fun j a e => by
    obtain ⟨x, y, t, q1, q2⟩ := m.at_ j a e
    exact ⟨x, y, k a (List.mem_of_getElem? e) _ t, q1, q2⟩⟩
theorem Made.add {lo : Addr} {h : Heap} {as : List Addr} {a : Addr} {x y : Value} (m : Made P1 P2 lo h as) (big : ∀ b ∈ as, b < a) (la : lo < a) (t : IsTupOf2 h a x y) (p1 : P1 as.length x) (p2 : P2 as.length y) : Made P1 P2 lo h (as ++ [a]) := by
  refine ⟨List.pairwise_append.mpr ⟨m.rise, List.pairwise_singleton _ _, fun b hb c hc => by rw [List.mem_singleton.mp hc]; exact big b hb⟩, fun b hb => ?_, fun j b e => ?_⟩
  · rcases List.mem_append.mp hb with hb | hb
    · exact m.above b hb
    · rw [List.mem_singleton.mp hb]
      exact ⟨la, Heap.lt_size t⟩
  · rcases Nat.lt_trichotomy j as.length with c | c | c
    · rw [List.getElem?_append_left c] at e
      exact m.at_ j b e
    · subst c
      rw [List.getElem?_append_right (Nat.le_refl _)] at e
      simp at e
      subst e
      exact ⟨x, y, t, p1, p2⟩
    · rw [List.getElem?_eq_none (by simp; omega)] at e
      cases e
/-- a zip on its way -/
def ZAt (z TI TO i1 i2 D : Addr) (St1 St2 : Nat → Heap → Prop) (i : Nat) (h : Heap) : Prop :=
  IsTupOf2 h TI (.ref i1) (.ref i2) ∧ St1 i h ∧ St2 i h ∧ ((IsZip h z TI TO .none ∧ ∃ a b, IsTupOf2 h TO a b) ∨ ∃ T f oT, IsZipHeld h z TI TO T f ∧ h.get? T = some oT ∧ T ≠ z ∧ T ≠ i1 ∧ T ≠ i2 ∧ T ≠ D)
theorem zip_next {i : Nat} {D : Addr} {Q : Option Value → Shared → Prop} (S : ZipSep2 z TI TO i1 i2 fp1 fp2) (D1 : Draws prog w A.in1 i1 fp1 n1 P1 St1) (D2 : Draws prog w A.in1 i2 fp2 n2 P2 St2) (za : ZAt z TI TO i1 i2 D St1 St2 i s.heap) (l1 : i < n1) (l2 : i < n2) (hD : D < s.heap.objs.size)
    (hQ : ∀ x y h2 tk, P1 i x → P2 i y → ZAt z TI TO i1 i2 D St1 St2 (i + 1) h2 → IsTupOf2 h2 s.heap.objs.size x y → (∀ c o, c ≠ z → c ≠ TO → c ≠ i1 → c ≠ i2 → s.heap.get? c = some o → h2.get? c = some o) → Q (some (.ref s.heap.objs.size)) { s with heap := h2, toks := tk }) :
    wpAny (model prog w) A (pyNext (.ref z)) Q E s := by
  obtain ⟨hTI, st1, st2, zz⟩ := za
  have lt : ∀ {c o}, s.heap.get? c = some o → s.heap.objs.size ≠ c := fun e => Nat.ne_of_gt (Heap.lt_size e)
  have n1' : s.heap.objs.size ≠ i1 := let ⟨_, e⟩ := D1.live _ _ st1; lt e
  have n2' : s.heap.objs.size ≠ i2 := let ⟨_, e⟩ := D2.live _ _ st2; lt e
  rcases zz with ⟨hz, a, b, hTO⟩ | ⟨T, f, oT, hz, hT, r1, r2, r3, r4⟩
  · refine wpAny_pyNext_zipD2_item S D1 D2 hz hTI hTO st1 st2 l1 l2 fun x y h2 tk q1 q2 b1 b2 d1 d2 b5 b6 hk => ?_
    exact hQ x y h2 tk q1 q2 ⟨hk _ _ S.TIz S.TITO S.TIi1 S.TIi2 hTI, d1, d2, .inr ⟨s.heap.objs.size, false, _, b1, b5, lt hz, n1', n2', Nat.ne_of_gt hD⟩⟩ b5 hk
  · have hTy : s.TypeIs (.ref z) "zip" := ⟨_, hz, rfl⟩
    unfold pyNext
    refine wpAny_bind (wpAny_attempt (wpAny_callSpecial?_slot (name := Str.ofString "__next__") hTy F.slot_zip_next (wpAny_call_entry F.slot_zip_next hTy F.entry_zip_next
      (zip_more S D1 D2 hz hT hTI st1 st2 l1 l2 fun x y h2 tk q1 q2 b1 d1 d2 b5 hk => wpAny_pure ?_) (F.args_zip_next_1 _))))
    exact hQ x y h2 tk q1 q2 ⟨hk _ _ S.TIz S.TIi1 S.TIi2 hTI, d1, d2, .inr ⟨T, true, oT, b1, hk _ _ r1 r2 r3 hT, r1, r2, r3, r4⟩⟩ b5 fun c o c1 _ c2 c3 e => hk c o c1 c2 c3 e
theorem zip_done {i : Nat} {D : Addr} {Q : Option Value → Shared → Prop} (hh : A.handled = none) (S : ZipSep2 z TI TO i1 i2 fp1 fp2) (D1 : Draws prog w A.in1 i1 fp1 n1 P1 St1) (D2 : Draws prog w A.in1 i2 fp2 n2 P2 St2) (za : ZAt z TI TO i1 i2 D St1 St2 i s.heap) (l1 : i ≤ n1) (l2 : i ≤ n2) (le : i = n1 ∨ i = n2)
    (hQ : ∀ h2 tk, (∀ c o, c ≠ z → c ≠ TO → c ≠ i1 → c ≠ i2 → s.heap.get? c = some o → h2.get? c = some o) → Q none { s with heap := h2, toks := tk }) :
    wpAny (model prog w) A (pyNext (.ref z)) Q E s := by
  obtain ⟨hTI, st1, st2, zz⟩ := za
  rcases zz with ⟨hz, a, b, hTO⟩ | ⟨T, f, oT, hz, hT, r1, r2, r3, r4⟩
  · exact wpAny_pyNext_zipD2_end S D1 D2 hz hTI hTO st1 st2 l1 l2 le fun h2 tk hk => hQ h2 tk hk
  · have hTy : s.TypeIs (.ref z) "zip" := ⟨_, hz, rfl⟩
    unfold pyNext
    refine wpAny_bind (wpAny_attempt (wpAny_callSpecial?_slot (name := Str.ofString "__next__") hTy F.slot_zip_next (wpAny_call_entry F.slot_zip_next hTy F.entry_zip_next
      (zip_stop S D1 D2 hz hT hTI st1 st2 l1 l2 le fun h2 tk e hk he => ?_) (F.args_zip_next_1 _))))
    obtain ⟨o, ho, hc⟩ := he
    refine wpAny_bind (wpAny_isInstance (T := "StopIteration") (b := true) ⟨o, ho, hc⟩ isSubtype_stop ?_)
    exact wpAny_pure (hQ _ _ fun c o c1 _ c2 c3 e => hk c o c1 c2 c3 e)
/-- the rounds that fill a list with the pairs of a zip -/
theorem zip_fill {R : Result → Shared → Prop} {D lo : Addr} (res : Value) (hh : A.handled = none) (S : ZipSep2 z TI TO i1 i2 fp1 fp2) (D1 : Draws prog w A.in1.in1 i1 fp1 n1 P1 St1) (D2 : Draws prog w A.in1.in1 i2 fp2 n2 P2 St2) (dz : D ≠ z) (dI : D ≠ TI) (dO : D ≠ TO) (d1 : D ∉ fp1) (d2 : D ∉ fp2)
    (lz : z ≤ lo) (lI : TI ≤ lo) (lO : TO ≤ lo) (l1 : i1 ≤ lo) (l2 : i2 ≤ lo) (lD : D ≤ lo) (few : min n1 n2 ≤ sizeLine) :
    ∀ (k i : Nat) (s : Shared) (as : List Addr) (c : Nat), min n1 n2 - i = k → i ≤ min n1 n2 → ZAt z TI TO i1 i2 D St1 St2 i s.heap → s.heap.get? D = some { cls := .type "list", dict := none, data := .seq (as.map Value.ref).toArray c, slots := #[] } → as.length = i → lo < s.heap.objs.size → Made P1 P2 lo s.heap as →
      (∀ h2 tk as2 c2, (∀ b o, b ≠ D → b ≠ z → b ≠ TO → b ≠ i1 → b ≠ i2 → s.heap.get? b = some o → h2.get? b = some o) → h2.get? D = some { cls := .type "list", dict := none, data := .seq (as2.map Value.ref).toArray c2, slots := #[] } → as2.length = min n1 n2 → Made P1 P2 lo h2 as2 → R (.ok (.ret res)) { s with heap := h2, toks := tk }) →
      codeAny (model prog w) A (.builtin "list.extend.loop" ⟨[.ref D, .ref z, res], []⟩) R s := by
  intro k
  induction k with
  | zero =>
    intro i s as c hk hi za hD hl lo' m hR
    have en : i = min n1 n2 := by omega
    refine codeAny_builtin F.entry_extend_loop ?_
    rw [Around.under_plainId F.plain_extend_loop _]
    show wpAny _ A.in1 (pyNext (.ref z) >>= _) _ _ s
    have sz : ∀ a ∈ as, a ≠ z ∧ a ≠ TO ∧ a ≠ i1 ∧ a ≠ i2 := fun a ha => by
      have := (m.above a ha).1
      exact ⟨Nat.ne_of_gt (Nat.lt_of_le_of_lt lz this), Nat.ne_of_gt (Nat.lt_of_le_of_lt lO this), Nat.ne_of_gt (Nat.lt_of_le_of_lt l1 this), Nat.ne_of_gt (Nat.lt_of_le_of_lt l2 this)⟩
    refine wpAny_bind (zip_done (by simp [hh]) S D1 D2 za (by omega) (by omega) (by omega) fun h2 tk keep => ?_)
    refine wpAny_pure (hR h2 tk as c (fun b o _ b1 b2 b3 b4 e => keep b o b1 b2 b3 b4 e) ?_ (hl.trans en) ?_)
    · exact keep D _ dz dO (fun q => d1 (q ▸ S.mem1)) (fun q => d2 (q ▸ S.mem2)) hD
    · refine ⟨m.rise, fun a ha => ⟨(m.above a ha).1, ?_⟩, fun j a e => ?_⟩
      · obtain ⟨j, hj⟩ := List.mem_iff_getElem?.mp ha
        obtain ⟨x, y, t, _⟩ := m.at_ j a hj
        obtain ⟨b1, b2, b3, b4⟩ := sz a ha
        exact Heap.lt_size (keep a _ b1 b2 b3 b4 t)
      · obtain ⟨x, y, t, q1, q2⟩ := m.at_ j a e
        obtain ⟨b1, b2, b3, b4⟩ := sz a (List.mem_of_getElem? e)
        exact ⟨x, y, keep a _ b1 b2 b3 b4 t, q1, q2⟩
  | succ k ih =>
    intro i s as c hk hi za hD hl lo' m hR
    refine codeAny_builtin F.entry_extend_loop ?_
    rw [Around.under_plainId F.plain_extend_loop _]
    show wpAny _ A.in1 (pyNext (.ref z) >>= _) _ _ s
    have sz : ∀ a ∈ as, a ≠ z ∧ a ≠ TO ∧ a ≠ i1 ∧ a ≠ i2 ∧ a ≠ D := fun a ha => by
      have := (m.above a ha).1
      exact ⟨Nat.ne_of_gt (Nat.lt_of_le_of_lt lz this), Nat.ne_of_gt (Nat.lt_of_le_of_lt lO this), Nat.ne_of_gt (Nat.lt_of_le_of_lt l1 this), Nat.ne_of_gt (Nat.lt_of_le_of_lt l2 this), Nat.ne_of_gt (Nat.lt_of_le_of_lt lD this)⟩
    refine wpAny_bind (zip_next S D1 D2 za (by omega) (by omega) (Heap.lt_size hD) fun x y h2 tk q1 q2 za2 t keep => ?_)
    have hD2 := keep D _ dz dO (fun q => d1 (q ▸ S.mem1)) (fun q => d2 (q ▸ S.mem2)) hD
    show wpAny _ A.in1 (updateSeq D (·.push (.ref s.heap.objs.size)) >>= _) _ _ _
    refine wpAny_bind ?_
    have szD : s.heap.objs.size ≠ D := Nat.ne_of_gt (Heap.lt_size hD)
    have up : ∀ (b : Addr) (o : Obj), b ≠ D → h2.get? b = some o → (h2.update D (·.mapSeq (·.push (.ref s.heap.objs.size)))).get? b = some o := fun b o hb e => (Heap.get?_update_other _ _ (fun q : D = b => hb q.symm)).trans e
    obtain ⟨c9, e9⟩ : ∃ c9, (h2.update D (·.mapSeq (·.push (.ref s.heap.objs.size)))).get? D = some { cls := .type "list", dict := none, data := .seq ((as ++ [s.heap.objs.size]).map Value.ref).toArray c9, slots := #[] } := by
      rw [Heap.get?_update_self _ hD2 rfl]
      exact ⟨_, by simp [Obj.mapSeq]; rfl⟩
    refine wpAny_updateSeq hD2 rfl (wpAny_pure ⟨plainId_quiet F.plain_extend_loop _, ih (i + 1) _ (as ++ [s.heap.objs.size]) c9 (by omega) (by omega) ?_ e9 (by simp [hl]) ?_ ?_ fun h4 tk4 as4 c4 keep4 hD4 hl4 m4 => ?_⟩) (by simp [hl]; omega) (by simp [hl]; omega)
    · obtain ⟨hTI, st1, st2, zz⟩ := za2
      refine ⟨up _ _ (Ne.symm dI) hTI, D1.frame _ _ _ st1 fun b hb o e => up b o (fun q => d1 (q ▸ hb)) e, D2.frame _ _ _ st2 fun b hb o e => up b o (fun q => d2 (q ▸ hb)) e, ?_⟩
      rcases zz with ⟨hz, a, b, hTO⟩ | ⟨T, f, oT, hz, hT, r1, r2, r3, r4⟩
      · exact .inl ⟨up _ _ (Ne.symm dz) hz, a, b, up _ _ (Ne.symm dO) hTO⟩
      · exact .inr ⟨T, f, oT, up _ _ (Ne.symm dz) hz, up _ _ r4 hT, r1, r2, r3, r4⟩
    · have := Heap.lt_size (up _ _ szD t)
      exact Nat.lt_trans lo' this
    · refine Made.add (m.up (fun a ha o e => ?_) ?_) (fun b hb => (m.above b hb).2) lo' (up _ _ szD t) (hl ▸ q1) (hl ▸ q2)
      · obtain ⟨b1, b2, b3, b4, b5⟩ := sz a ha
        exact up _ _ b5 (keep a _ b1 b2 b3 b4 e)
      · exact Nat.le_of_lt (Heap.lt_size (up _ _ szD t))
    · exact hR h4 tk4 as4 c4 (fun b o b0 b1 b2 b3 b4 e => keep4 b o b0 b1 b2 b3 b4 (up b o b0 (keep b o b1 b2 b3 b4 e))) hD4 hl4 m4
end
end GN

set_option Elab.async false
set_option linter.all false
set_option autoImplicit false
set_option maxRecDepth 100000
set_option maxHeartbeats 4000000
namespace GN
open PySem PySem.Spec PyProof.Rows L2 G
theorem zip_no_len : typeLookup (.type "zip") "__len__" = pure none := am_miss_of_fast (by decide +kernel)
theorem zip_no_hint : typeLookup (.type "zip") "__length_hint__" = pure none := am_miss_of_fast (by decide +kernel)
section
variable {prog : Program} {w : World} {A : Around} {E : Value → Shared → Prop} {s : Shared} {z TI TO i1 i2 : Addr} {fp1 fp2 : List Addr} {n1 n2 : Nat} {P1 P2 : Nat → Value → Prop} {St1 St2 : Nat → Heap → Prop}
theorem zip_hint (hT : s.TypeIs (.ref z) "zip") {Q : Bool → Shared → Prop} (h : Q true s) : wpAny (model prog w) A (Builtin.List.listLengthHint (.ref z)) Q E s := by
  unfold Builtin.List.listLengthHint
  refine wpAny_bind (wpAny_specialOf hT zip_no_len ?_)
  generalize hN : (none : Option Value) = N
  wp_delta
  subst hN
  refine wpAny_ite_split (fun q => absurd q (by decide)) (fun _ => ?_)
  refine wpAny_ite_split (fun q => absurd q (by decide)) (fun _ => ?_)
  first
    | exact wpAny_bind (wpAny_specialOf hT zip_no_hint (wpAny_pure h))
    | exact wpAny_bind (wpAny_pure (wpAny_bind (wpAny_specialOf hT zip_no_hint (wpAny_pure h))))
/-- list(z) of a fresh zip -/
theorem list_zip {Q : Value → Shared → Prop} (hh : A.handled = none) (S : ZipSep2 z TI TO i1 i2 fp1 fp2) (D1 : Draws prog w A.in1.in1.in1 i1 fp1 n1 P1 St1) (D2 : Draws prog w A.in1.in1.in1 i2 fp2 n2 P2 St2) (few : min n1 n2 ≤ sizeLine)
    (hz : IsZip s.heap z TI TO .none) (hTI : IsTupOf2 s.heap TI (.ref i1) (.ref i2)) (hTO : ∃ a b, IsTupOf2 s.heap TO a b) (st1 : St1 0 s.heap) (st2 : St2 0 s.heap) (f1 : ∀ b ∈ fp1, b < s.heap.objs.size) (f2 : ∀ b ∈ fp2, b < s.heap.objs.size)
    (hQ : ∀ h2 tk as c, (∀ b o, b ≠ z → b ≠ TO → b ≠ i1 → b ≠ i2 → s.heap.get? b = some o → h2.get? b = some o) → h2.get? s.heap.objs.size = some { cls := .type "list", dict := none, data := .seq (as.map Value.ref).toArray c, slots := #[] } → as.length = min n1 n2 → Made P1 P2 s.heap.objs.size h2 as → Q (.ref s.heap.objs.size) { s with heap := h2, toks := tk }) :
    wpAny (model prog w) A (call (.type "list") [.ref z]) Q E s := by
  refine callType_codes (Q₁ := fun obj s1 => obj = .ref s.heap.objs.size ∧ s1 = { s with heap := s.heap.push { cls := .type "list", data := .seq #[] } }) PySem.F.called_list (PySem.F.typeCall_list_1 _) PySem.F.entry_list_init (code_list_new _ ⟨rfl, rfl⟩) fun obj s1 h1 => ?_
  obtain ⟨rfl, rfl⟩ := h1
  have hS : (s.heap.push { cls := .type "list", data := .seq #[] }).get? s.heap.objs.size = some { cls := .type "list", data := .seq #[] } := Heap.get?_push_size _ rfl
  refine ⟨⟨_, hS, rfl⟩, PySem.F.args_list_init_2 _ _, ?_⟩
  have lt : ∀ {c o}, s.heap.get? c = some o → c < s.heap.objs.size := fun e => Heap.lt_size e
  obtain ⟨a, b, hTO⟩ := hTO
  have li1 : i1 < s.heap.objs.size := f1 _ S.mem1
  have li2 : i2 < s.heap.objs.size := f2 _ S.mem2
  show wpAny _ _ (do let old ← Builtin.List.listItems (.ref s.heap.objs.size); Builtin.List.listUpdate (.ref s.heap.objs.size) (fun _ => #[]); letGo old.toList.reverse; Builtin.List.listExtendWith (.ref s.heap.objs.size) (.ref z) .none) _ _ _
  refine wpAny_bind ?_
  unfold Builtin.List.listItems
  refine wpAny_bind (wpAny_seqItems hS rfl (wpAny_pure ?_))
  show wpAny _ _ (updateSeq s.heap.objs.size (fun _ => #[]) >>= fun _ => letGo (#[] : Array Value).toList.reverse >>= fun _ => Builtin.List.listExtendWith (.ref s.heap.objs.size) (.ref z) .none) _ _ _
  refine wpAny_bind (wpAny_updateSeq hS rfl ?_)
  have hS2 := Heap.get?_update_self (Obj.mapSeq (fun _ => (#[] : Array Value))) hS rfl
  have oth : ∀ c o, s.heap.get? c = some o → ((s.heap.push { cls := .type "list", data := .seq #[] }).update s.heap.objs.size (Obj.mapSeq (fun _ => (#[] : Array Value)))).get? c = some o := fun c o e =>
    (Heap.get?_update_other _ _ (Nat.ne_of_gt (lt e))).trans (Heap.get?_push_of_some _ e)
  refine wpAny_bind (wpAny_letGo ?_)
  have hz2 := oth _ _ hz
  have tz : Shared.TypeIs { s with heap := (s.heap.push { cls := .type "list", data := .seq #[] }).update s.heap.objs.size (Obj.mapSeq (fun _ => (#[] : Array Value))) } (.ref z) "zip" := ⟨_, hz2, rfl⟩
  unfold Builtin.List.listExtendWith
  refine wpAny_bind (wpAny_typeOf (T := "zip") tz ?_)
  have g1 : Builtin.List.listSameRef (.ref s.heap.objs.size) (.ref z) = false := by
    have : s.heap.objs.size ≠ z := Nat.ne_of_gt (lt hz)
    simp [Builtin.List.listSameRef, this]
  have g2 : (Value.type "zip" == Value.type "list") = false := by decide
  have g3 : (Value.type "zip" == Value.type "tuple") = false := by decide
  simp only [g1, g2, g3, Bool.or_false, Bool.false_eq_true, if_false]
  refine wpAny_bind (wpAny_pyIter_zip hz2 (wpAny_bind (wpAny_holding (zip_hint tz ?_))))
  refine wpAny_ite_split (fun _ => ?_) (fun q => absurd (by simp) q)
  refine wpAny_bind (wpAny_rule (wpAny_bind ?_))
  show wpAny _ _ (updateSeq s.heap.objs.size (·.push .none) >>= fun _ => updateSeq s.heap.objs.size (·.pop)) _ _ _
  refine wpAny_bind (wpAny_updateSeq hS2 rfl ?_)
  have hS3 := Heap.get?_update_self (Obj.mapSeq (·.push Value.none)) hS2 rfl
  refine wpAny_updateSeq (hz := by seq_fits) hS3 rfl ?_
  have hS4 := Heap.get?_update_self (Obj.mapSeq (·.pop)) hS3 rfl
  have oth2 : ∀ c o, s.heap.get? c = some o → ((((s.heap.push { cls := .type "list", data := .seq #[] }).update s.heap.objs.size (Obj.mapSeq (fun _ => (#[] : Array Value)))).update s.heap.objs.size (Obj.mapSeq (·.push Value.none))).update s.heap.objs.size (Obj.mapSeq (·.pop))).get? c = some o := fun c o e =>
    (Heap.get?_update_other _ _ (Nat.ne_of_gt (lt e))).trans ((Heap.get?_update_other _ _ (Nat.ne_of_gt (lt e))).trans (oth c o e))
  refine wpAny_pure ⟨plainId_quiet PySem.F.plain_extend_loop _, ?_⟩
  obtain ⟨c9, e9⟩ : ∃ c9, ((((s.heap.push { cls := .type "list", data := .seq #[] }).update s.heap.objs.size (Obj.mapSeq (fun _ => (#[] : Array Value)))).update s.heap.objs.size (Obj.mapSeq (·.push Value.none))).update s.heap.objs.size (Obj.mapSeq (·.pop))).get? s.heap.objs.size = some { cls := .type "list", dict := none, data := .seq (([] : List Addr).map Value.ref).toArray c9, slots := #[] } := by
    rw [hS4]
    exact ⟨_, by simp [Obj.mapSeq]; rfl⟩
  refine zip_fill (D := s.heap.objs.size) (lo := s.heap.objs.size) .none (by simp [hh]) S D1 D2 (Nat.ne_of_gt (lt hz)) (Nat.ne_of_gt (lt hTI)) (Nat.ne_of_gt (lt hTO)) (fun q => Nat.lt_irrefl _ (f1 _ q)) (fun q => Nat.lt_irrefl _ (f2 _ q))
    (Nat.le_of_lt (lt hz)) (Nat.le_of_lt (lt hTI)) (Nat.le_of_lt (lt hTO)) (Nat.le_of_lt li1) (Nat.le_of_lt li2) (Nat.le_refl _) few _ 0 _ [] c9 rfl (Nat.zero_le _)
    ⟨oth2 _ _ hTI, D1.frame _ _ _ st1 fun b _ o e => oth2 b o e, D2.frame _ _ _ st2 fun b _ o e => oth2 b o e, .inl ⟨oth2 _ _ hz, a, b, oth2 _ _ hTO⟩⟩ e9 rfl ?_ ⟨.nil, nofun, fun j a e => by simp at e⟩ fun h2 tk as c keep hD hl m => ?_
  · exact Heap.lt_size hS4
  · exact ⟨rfl, hQ h2 tk as c (fun b o b1 b2 b3 b4 e => keep b o (Nat.ne_of_lt (lt e)) b1 b2 b3 b4 (oth2 b o e)) hD hl m⟩
end
end GN

set_option Elab.async false
set_option linter.all false
set_option autoImplicit false
set_option maxRecDepth 100000
set_option maxHeartbeats 4000000
namespace GN
open PySem PySem.Spec PyProof.Rows L2 G
/-- pairs laid at their addresses -/
def lay : Hp → List Addr → List (V × V) → Hp
  | H, a :: as, p :: ps => lay (upd H a (.tup [p.1, p.2])) as ps
  | H, _, _ => H
theorem lay_off {b : Addr} : ∀ {as : List Addr} {ps : List (V × V)} {H : Hp}, b ∉ as → lay H as ps b = H b
  | [], _, _, _ => rfl
  | _ :: _, [], _, _ => rfl
  | a :: as, p :: ps, H, h => by
    simp only [List.mem_cons, not_or] at h
    rw [lay, lay_off h.2, upd_ne h.1]
theorem lay_at : ∀ {as : List Addr} {ps : List (V × V)} {H : Hp} {j : Nat} {a : Addr} {p : V × V}, as.Nodup → as[j]? = some a → ps[j]? = some p → lay H as ps a = some (.tup [p.1, p.2])
  | [], _, _, _, _, _, _, h, _ => by simp at h
  | _ :: _, [], _, _, _, _, _, _, h => by simp at h
  | a :: as, p :: ps, H, 0, b, q, n, h1, h2 => by
    simp only [List.getElem?_cons_zero, Option.some.injEq] at h1 h2
    subst h1; subst h2
    rw [lay, lay_off (List.nodup_cons.mp n).1, upd_same]
  | a :: as, p :: ps, H, j + 1, b, q, n, h1, h2 => by
    rw [lay]
    exact lay_at (j := j) (List.nodup_cons.mp n).2 (by simpa using h1) (by simpa using h2)
theorem lay_some : ∀ {as : List Addr} {ps : List (V × V)} {H : Hp} {a : Addr} {u : HO}, as.length = ps.length → as.Nodup → a ∈ as → lay H as ps a = some u → ∃ (j : Nat) (p : V × V), as[j]? = some a ∧ ps[j]? = some p ∧ u = .tup [p.1, p.2] := by
  intro as ps H a u hl n ha e
  obtain ⟨j, hj⟩ := List.mem_iff_getElem?.mp ha
  have lt := (List.getElem?_eq_some_iff.mp hj).1
  have hp : ps[j]? = some (ps[j]'(hl ▸ lt)) := List.getElem?_eq_getElem _
  rw [lay_at n hj hp] at e
  exact ⟨j, _, hj, hp, (Option.some.inj e).symm⟩
/-- list(zip(a, b)) of two tuples -/
def tZipL (K : PySem.W.Frag) (ta : TA) : TE := fun σ H Q => ta σ H fun vs H1 => ∃ a b xs ys, vs = [.ref a, .ref b] ∧ SqT K H1 a xs ∧ SqT K H1 b ys ∧
  ∀ (H2 : Hp) (p : Addr) (as : List Addr), (∀ q o, H1 q = some o → H2 q = some o) → H1 p = none → (∀ t ∈ as, H1 t = none) → H2 p = some (.lst (as.map V.ref)) → as.length = min xs.length ys.length →
    (∀ (j : Nat) (t : Addr), as[j]? = some t → ∃ x y, xs[j]? = some x ∧ ys[j]? = some y ∧ H2 t = some (.tup [x, y])) → Q (.ref p) H2
section
variable {X : Cx} {e e2 : Expr} {ta : TA} {p p2 q pos : Pos}
theorem pe_zipL (hc : X.calm = true) (g1 : Gl X "list") (m1 : X.mg "list" = none) (v1 : bootBuiltins "list" = some (.type "list")) (g2 : Gl X "zip") (m2 : X.mg "zip" = none) (ha : PA X [e, e2] ta) (hs : starEach [e, e2] X.env = (false, eval e X.env) :: starEach [e2] X.env) (hpl : (backTo q (starEach [e2] X.env)).any (·.1) = false) :
    PE X (.Call (.Name "list" p) [.Call (.Name "zip" p2) [e, e2] [] q] [] pos) (tZipL X.K ta) := by
  refine ⟨fun pins s σ H Q I h => Call_ (ld_blt I g1 m1 v1 ?_)⟩
  refine PyProof.Rows.callWith_type1 (PyProof.Rows.args_cons (Call_ (ld_blt I g2 m2 PyProof.Rows.boot_zip ?_)) rfl) rfl rfl
  refine PyProof.Rows.callWith_type1 (thn (ha.run q pins s σ H _ I h) fun us s1 ⟨vs, H1, I1, r1, a, b, xs, ys, ex, hx, hy, k⟩ => ?_) hs hpl
  subst ex
  obtain ⟨u1, u2, rfl, ra, rb⟩ := vals2 r1
  cases ra
  cases rb
  obtain ⟨its, rv, t1, z1⟩ := I1.tuple hx
  obtain ⟨its2, rv2, t2, z2⟩ := I1.tuple hy
  have la : a < s1.heap.objs.size := let ⟨_, q, _⟩ := t1; Heap.lt_size q
  have lb : b < s1.heap.objs.size := let ⟨_, q, _⟩ := t2; Heap.lt_size q
  have hh := I1.ok.hd hc
  refine RZ.call_zipT (show s1.heap.IsTuple a its.toArray from t1) (show s1.heap.IsTuple b its2.toArray from t2) fun h1 hz hTI hTO d1 d2 sz1 keep => PyProof.Rows.args_nil ?_
  have e1 : its.toArray.size = xs.length := by rw [List.size_toArray, rv.length]
  have e2' : its2.toArray.size = ys.length := by rw [List.size_toArray, rv2.length]
  have D1 := Draws.tuple (prog := X.prog) (w := X.w) (A := X.A.in1.in1.in1) (by simp [hh]) s1.heap.objs.size a (Nat.ne_of_lt la) its.toArray
  have D2 := Draws.tuple (prog := X.prog) (w := X.w) (A := X.A.in1.in1.in1) (by simp [hh]) (s1.heap.objs.size + 1) b (Nat.ne_of_lt (Nat.lt_succ_of_lt lb)) its2.toArray
  have T1 : h1.IsTuple a its.toArray := let ⟨o, q, r⟩ := t1; ⟨o, keep _ _ q, r⟩
  have T2 : h1.IsTuple b its2.toArray := let ⟨o, q, r⟩ := t2; ⟨o, keep _ _ q, r⟩
  have sep : ZipSep2 (s1.heap.objs.size + 4) (s1.heap.objs.size + 2) (s1.heap.objs.size + 3) s1.heap.objs.size (s1.heap.objs.size + 1) [s1.heap.objs.size, a] [s1.heap.objs.size + 1, b] := by
    refine ⟨?_, ?_, ?_, ?_, ?_, ?_, ?_, ?_, ?_, ?_, ?_, ?_, ?_⟩ <;> (try simp only [List.mem_cons, List.not_mem_nil, or_false, not_or, true_or]) <;> (unfold Addr at *; omega)
  refine list_zip (s := { s1 with heap := h1 }) hh sep D1 D2 (by rw [e1]; exact Nat.le_trans (Nat.min_le_left ..) z1) hz hTI ⟨_, _, hTO⟩ ⟨d1, T1⟩ ⟨d2, T2⟩ ?_ ?_ fun h2 tk as c keep2 hD hl m => ?_
  · intro c hcm
    show c < h1.objs.size
    rw [sz1]
    simp only [List.mem_cons, List.not_mem_nil, or_false] at hcm
    unfold Addr at *
    omega
  · intro c hcm
    show c < h1.objs.size
    rw [sz1]
    simp only [List.mem_cons, List.not_mem_nil, or_false] at hcm
    unfold Addr at *
    omega
  · have keepS : ∀ b o, s1.heap.get? b = some o → h2.get? b = some o := fun b o e => by
      have lt := Heap.lt_size e
      exact keep2 b o (by unfold Addr at *; omega) (by unfold Addr at *; omega) (by unfold Addr at *; omega) (by unfold Addr at *; omega) (keep b o e)
    have szD : s1.heap.objs.size ≤ h1.objs.size := by rw [sz1]; omega
    have nd : as.Nodup := List.Pairwise.imp (fun {a b} (h : a < b) => Nat.ne_of_lt h) m.rise
    have new : ∀ t ∈ as, H1 t = none := fun t ht => I1.hok.fresh (Nat.le_trans szD (Nat.le_of_lt (m.above t ht).1))
    have newD : H1 h1.objs.size = none := I1.hok.fresh szD
    have outD : h1.objs.size ∉ as := fun q => Nat.lt_irrefl _ (m.above _ q).1
    have ln : as.length = (xs.zip ys).length := by rw [hl, e1, e2', List.length_zip]
    have kp : ∀ b u, H1 b = some u → (lay (upd H1 h1.objs.size (.lst (as.map V.ref))) as (xs.zip ys)) b = some u := fun b u e => by
      rw [lay_off (fun q => by rw [new b q] at e; cases e), upd_ne (fun q => by rw [q, newD] at e; cases e)]
      exact e
    have atD : (lay (upd H1 h1.objs.size (.lst (as.map V.ref))) as (xs.zip ys)) h1.objs.size = some (.lst (as.map V.ref)) := by rw [lay_off outD, upd_same]
    have lowD : ∀ b o, s1.heap.get? b = some o → b ∉ as ∧ b ≠ h1.objs.size := fun b o e => by
      have lt := Heap.lt_size e
      exact ⟨fun q => absurd (Nat.lt_of_lt_of_le lt szD) (Nat.not_lt.mpr (Nat.le_of_lt (m.above b q).1)), Nat.ne_of_lt (Nat.lt_of_lt_of_le lt szD)⟩
    have I9 : Inv X pins σ (lay (upd H1 h1.objs.size (.lst (as.map V.ref))) as (xs.zip ys)) { s1 with heap := h2, toks := tk } := by
      refine I1.call' (ch := []) rfl ⟨fun b o q _ _ _ => keepS b o q, fun b o q _ _ _ => ⟨o.slots, keepS b o q⟩, fun b o q n _ => ?_, fun b o q _ => ⟨o, keepS b o q⟩, fun b xs q => kp b _ q, fun b o u q => kp b _ q, fun b ps q => ⟨#[], by rw [kp b _ q]; simp⟩⟩ (fun b u q => ?_) I1.bare fun b z => by simp at z
      · obtain ⟨c1, c2⟩ := lowD b o q
        rw [lay_off c1, upd_ne c2]
        exact n
      · by_cases hb : b ∈ as
        · obtain ⟨j, pr, f1, f2, rfl⟩ := lay_some ln nd hb q
          obtain ⟨x, y, tt, q1, q2⟩ := m.at_ j b f1
          have g := List.getElem?_zip_eq_some.mp f2
          obtain ⟨v1', w1, w2⟩ := rv.get g.1
          obtain ⟨v2', w3, w4⟩ := rv2.get g.2
          have q1' : its[j]? = some x := by simpa using q1
          have q2' : its2[j]? = some y := by simpa using q2
          rw [w1] at q1'; cases q1'
          rw [w3] at q2'; cases q2'
          exact ⟨by show 2 ≤ sizeLine; decide, [x, y], .cons w2 (.cons w4 .nil), ⟨_, tt, rfl, _, rfl⟩⟩
        · by_cases hb2 : b = h1.objs.size
          · subst hb2
            rw [atD] at q
            cases q
            refine ⟨by rw [List.length_map, hl, e1]; exact Nat.le_trans (Nat.min_le_left ..) z1, as.map Value.ref, c, LiI.vals_refs as, hD⟩
          · rw [lay_off hb, upd_ne hb2] at q
            exact (I1.hok b u q).stay (fun d v _ y => keepS d v y) (fun d y => kp d _ y) fun d xs y => kp d _ y
    refine ⟨.ref h1.objs.size, _, I9, rfl, k _ _ as kp newD new atD (by rw [hl, e1, e2']) fun j t ht => ?_⟩
    have lt := (List.getElem?_eq_some_iff.mp ht).1
    have hp : (xs.zip ys)[j]? = some ((xs.zip ys)[j]'(ln ▸ lt)) := List.getElem?_eq_getElem _
    have g := List.getElem?_zip_eq_some.mp hp
    exact ⟨_, _, g.1, g.2, lay_at nd ht hp⟩
end
end GN

set_option Elab.async false
set_option linter.all false
set_option autoImplicit false
set_option maxRecDepth 100000
set_option maxHeartbeats 4000000
/-! GX: an own class of errors whose __init__ says super().__init__(text) and keeps one field. -/
namespace G
open PySem PySem.Spec PyProof.Rows L2
/-- what the kept field leaves behind -/
def spI (C : Addr) (fld : Str) : Sp := fun vs H Q _ => ∃ (e : Addr) (v : V), vs = [.ref e, v] ∧ H e = some (exo e C none) ∧ ∀ dx, H dx = none → dx ≠ e → Q .non (upd (upd H dx (exd dx [(fld, v)])) e (exo e C (some dx)))
/-- what the written part says of such a class -/
structure XiOk (P : Program) (K : PySem.W.Frag) (C : Addr) (fld : Str) : Prop where
  T : OexC K C
  xf : XfC K C
  nof : PySem.W.findIn K (.ref C) fld = some none
  ex : ∃ (fI cc cda : Addr) (oc ccl cl : Value) (od cdd cld : Option Addr) (osl ccs csl : Array (Option Value)) (name qual self a msg : Str) (params : Arguments) (scope : Scope) (j : Nat) (p0 p1 p2 p3 p4 p5 p6 p7 p8 p9 : Pos) (dV kV doc pm ct : Value) (an : Option Addr) (vs : Array Value) (file : Str) (tf : Tok) (ar : Arg) (cdC : ClassData),
    PySem.W.findIn K (.ref C) "__init__" = some (some (.ref fI)) ∧ PySem.W.typeIn K (.ref fI) = some (.type "function") ∧
    K.lookup fI = some ⟨oc, od, .func (PySem.W.fnX name qual params [.Expr (.Call (.Attribute (.Call (.Name "super" p0) [] [] p1) "__init__" p2) [.Constant (.str msg) j p3] [] p4) p5, .Assign [.Attribute (.Name self p6) fld p7] (.Name a p8) p9] scope [("__class__", cc)] dV kV doc pm an (.ref cda) ct), osl⟩ ∧
    PySem.W.codeIn K (.ref cda) qual = true ∧ K.lookup cda = some ⟨ccl, cdd, .fields vs, ccs⟩ ∧ vs[2]? = some (.str file tf) ∧ ((P.main.file : Str) == file) = true ∧
    K.lookup cc = some ⟨cl, cld, .cell (some (.ref C)), csl⟩ ∧ (params.posonlyargs ++ params.args).head? = some ar ∧ ar.arg = self ∧
    (∀ us : List Value, us.length = 2 → bindArgs (PySem.W.fnX name qual params [.Expr (.Call (.Attribute (.Call (.Name "super" p0) [] [] p1) "__init__" p2) [.Constant (.str msg) j p3] [] p4) p5, .Assign [.Attribute (.Name self p6) fld p7] (.Name a p8) p9] scope [("__class__", cc)] dV kV doc pm an (.ref cda) ct) ⟨us, []⟩ = pure ([self, a].zip us)) ∧
    scope.names.lookup ("super" : Str) = some .globalImplicit ∧ scope.names.lookup ("__class__" : Str) = some .free ∧ scope.names.lookup self = some .local ∧ scope.names.lookup a = some .local ∧ (∀ x ∈ scope.names, x.2 ≠ .cell) ∧ scope.kind = .function ∧ scope.isCoroutine = false ∧ scope.isGenerator = false ∧
    (p2.endLine == p4.line) = true ∧ (self == ("__debug__" : Str)) = false ∧ (a == ("__debug__" : Str)) = false ∧ (a == self) = false ∧
    PySem.W.clsIn K C = some cdC ∧ PySem.W.mroIn K C (.ref C) = some true ∧ PySem.W.ks_superIn K C C "__init__" = some (some (.builtin "ValueError.__init__")) ∧ PySem.W.subIn K (.ref C) (.type "ValueError") = some true ∧
    PySem.W.nsIn K mainGlobals "super" = some none ∧ PySem.W.nsIn K PySem.cStatics "thirdparty.any" = some none ∧ (P.main.scope.names.lookup ("super" : Str)).isSome = false
section
open PySem.W PySem.Calls
variable {prog : Program} {w : World} {A : Around} {E : Value → Shared → Prop} {h : Heap} {g : Array GenState} {d : Drawn} {t : Nat} {os : OsState}
/-- the bound __init__ of ValueError, called -/
theorem call_mw {K : Frag} {u e C t0 : Addr} {rest : List Value} {Q : Value → Shared → Prop} (T : OexC K C) (X : K.In h) (he : h.get? e = some ({ cls := .ref C, dict := none, data := .fields #[.ref t0, .none, .none, .none, .bool false, .none] } : Obj))
    (hu : h.get? u = some (kxs_mw "ValueError.__init__" e)) (hz : rest.length ≤ sizeLine)
    (hq : ∀ h' t1, (∀ b o, b ≠ e → h.get? b = some o → h'.get? b = some o) → h'.get? e = some ({ cls := .ref C, dict := none, data := .fields #[.ref t1, .none, .none, .none, .bool false, .none] } : Obj) → Q .none ⟨h', g, d, t, os⟩) :
    wpAny (model prog w) A (call (.ref u) rest) Q E ⟨h, g, d, t, os⟩ := by
  obtain ⟨nm, q, N, bs, bm, sn, sub, ab, col, dd, k0, k1, k2, k3, k5, hC, hbm⟩ := T.cls
  refine wpAny_call (codeAny_of_tree ?_)
  show wpAny _ A.in1 (callAny (.ref u) ⟨rest, []⟩) _ _ _
  simp only [callAny]
  refine wpAny_bind (wpAny_load hu ?_)
  simp only [kxs_mw, show (Value.type "method-wrapper" == Value.type "method" || Value.type "method-wrapper" == Value.type "builtin_function_or_method" || Value.type "method-wrapper" == Value.type "method-wrapper") = true by decide, if_true]
  refine KFB.if_so (by decide) ?_
  refine wpAny_bind (check_bound_init PySem.F.excBase_ValueError.toExcCallFacts (X _ _ hC) he rfl ?_)
  refine wpAny_bind (wpAny_pure (wpAny_pure ?_))
  refine ⟨plainId_quiet PySem.F.excBase_ValueError.init.plain _, codeAny_builtin PySem.F.excBase_ValueError.initEntry ?_⟩
  exact exc_init_tree (cls := .ref C) (t0 := t0) (dv := none) (c2 := .none) (c3 := .none) (b4 := .bool false) he hz fun h' k e' _ => hq h' _ k e'
end
section
open PySem.W PySem.Calls
theorem mcall_eq {o : Expr} {name msg : Str} {j : Nat} {p apos pos : Pos} {env : PySem.Env} (hl : (apos.endLine == pos.line) = true) : ∃ pl, eval (.Call (.Attribute o name apos) [.Constant (.str msg) j p] [] pos) env = (do
      let ov ← attributeBase o name env (eval o env)
      standAt apos.atName
      let (f, first) ← holding [ov] (getMethod ov name pl)
      callWith pos f first (backTo pos (starEach [.Constant (.str msg) j p] env)) []) := by
  refine ⟨(do return (← importBound o env).getD true), ?_⟩
  show (do
    let ov ← attributeBase o name env (eval o env)
    standAt apos.atName
    methodCall o name apos pos env ov 1 (backTo pos (starEach [.Constant (.str msg) j p] env)) []) = _
  unfold methodCall calleeOf methodCallPos
  have hf : methodCallForm 1 (backTo pos (starEach [.Constant (.str msg) j p] env)) [] = true := rfl
  simp only [hf, hl, if_true, Bool.not_true, Bool.false_or, pure_bind]
theorem inter_no {env : PySem.Env} (h : env.scope.kind = .function) : interactive env = false := by
  unfold interactive
  rw [h]
  rfl
/-- the __init__ keeps its promise -/
theorem xi_fn {P : Program} {w : World} {K : PySem.W.Frag} {mg : Str → Option Value} {base : Heap} {CX : CXT} {k : Nat} {C : Addr} {fld : Str} (T : XiOk P K C fld) :
    ∃ (fI : Addr) (fd : FuncData) (ps : List Str), PySem.W.findIn K (.ref C) "__init__" = some (some (.ref fI)) ∧ PySem.W.typeIn K (.ref fI) = some (.type "function") ∧ Binds K fd ps [] ∧ FnOk P w K mg base CX (k + 1) fI fd ps (spI C fld) := by
  obtain ⟨fI, cc, cda, oc, ccl, cl, od, cdd, cld, osl, ccs, csl, name, qual, self, a, msg, params, scope, j, p0, p1, p2, p3, p4, p5, p6, p7, p8, p9, dV, kV, doc, pm, ct, an, vs, file, tf, ar, cdC, f1, f2, lk, hcd, lc, hvs, hfile, lcc, hp, har, hbind, n1, n2, n3, n4, hcell, hk, hco, hgen, hline, d1, d2, d3, hcls, hmro, hsup, hsub, g1, g2, g3⟩ := T.ex
  refine ⟨fI, _, [self, a], f1, f2, .all hbind, fun vs H Q E h => ?_, fun A outer s H args us vs Q E hr e0 hb r hsp => ?_⟩
  · obtain ⟨e, v, rfl, _⟩ := h
    rfl
  obtain ⟨e, v, rfl, he, hq⟩ := hsp
  obtain ⟨ue, us', rfl, re, r'⟩ : ∃ ue us', us = ue :: us' ∧ RelV (.ref e) ue ∧ Vals [v] us' := by
    cases r with
    | cons a b => exact ⟨_, _, rfl, a, b⟩
  obtain ⟨u, us2, rfl, ru, r2⟩ : ∃ u us2, us' = u :: us2 ∧ RelV v u ∧ Vals [] us2 := by
    cases r' with
    | cons a b => exact ⟨_, _, rfl, a, b⟩
  cases r2
  obtain rfl : ue = Value.ref e := re
  obtain ⟨hp0, g, dr, tk, os⟩ := s
  obtain ⟨t1, ho⟩ := exo_at e0.hok he
  have KX : K.In hp0 := e0.mod.kin.keeps fun b o z => (e0.bs b o z).1
  have lim : hp0.NoLimit := e0.mod.nolimit.keeps fun b o z => (e0.bs b o z).1
  have glob : hp0.Ns mainGlobals mg := e0.mod.glob.keeps fun b o z => (e0.bs b o z).1
  obtain ⟨mb, hmb, hbl⟩ := e0.mod.blt
  have blt : hp0.Ns builtinsNs mb := hmb.keeps fun b o z => (e0.bs b o z).1
  refine ks_codeAny_call_defAt (binds := [self, a].zip [.ref e, u]) hr.depth (KX _ _ lk) rfl lim (codeRec_of KX hcd) rfl hb hcell (fun x hx => ?_) (fun h₀ hns hk₀ => ?_) hco hgen hk
  · have hx : x = (self, Value.ref e) ∨ x = (a, u) := by simpa using hx
    rcases hx with rfl | rfl
    · exact n3
    · exact n4
  have KX0 : K.In h₀ := KX.keeps hk₀
  have he0 := hk₀ _ _ ho
  obtain ⟨oD, hD1, hD2⟩ : ∃ oD, h₀.get? C = some oD ∧ oD.data = .cls cdC := by
    unfold clsIn at hcls
    split at hcls
    · rename_i c d cd' sl hoo
      cases hcls
      exact ⟨_, KX0 _ _ hoo, rfl⟩
    · cases hcls
  have eC : e ≠ C := fun z => by
    rw [z, hD1] at he0
    cases he0
    cases hD2
  have hae : (self == a) = false := by
    rw [Bool.eq_false_iff] at d3 ⊢
    exact fun q => d3 (by simpa using (eq_of_beq q).symm)
  have lself : ([self, a].zip [Value.ref e, u]).reverse.lookup self = some (.ref e) := by simp [List.zip, List.lookup, hae]
  have la : ([self, a].zip [Value.ref e, u]).reverse.lookup a = some u := by simp [List.zip, List.lookup]
  refine ks_wpAt_execs_cons ?_
  refine ks_wpAt_Expr_any ?_ (inter_no hk)
  show _root_.PySem.wpAt _ _ _ (eval _ (ksEnv qual scope hp0.objs.size fI (.ref cda) cc)) _ _ _
  obtain ⟨pl, hme⟩ := mcall_eq (o := .Call (.Name "super" p0) [] [] p1) (name := "__init__") (msg := msg) (j := j) (p := p3) (env := ksEnv qual scope hp0.objs.size fI (.ref cda) cc) hline
  refine ks_wpAt_MethodCall (pl := pl) ?_ hme
  refine ks_wpAt_super_base (env := ksEnv qual scope hp0.objs.size fI (.ref cda) cc) n1 n2 (by decide) rfl (KX0 _ _ lk) rfl hp rfl (KX0 _ _ lc) rfl hvs hfile g3 ?_
  refine ks_loadName_global hk n1 (loadGlobal_builtin (env := ksEnv qual scope hp0.objs.size fI (.ref cda) cc) (glob.keeps hk₀) (mg_none_of KX glob g1) (blt.keeps hk₀) ((hbl _ (by decide +kernel)).trans (by decide +kernel : bootBuiltins "super" = some (.type "super"))) ⟨rfl, ?_⟩)
  refine wpAny_loadName_free hk n2 rfl ⟨_, KX0 _ _ lcc, rfl⟩ ?_
  rw [har]
  refine wpAny_loadName_local hk n3 hns lself ?_
  refine ks_wpAny_isType_cls hD1 hD2 ⟨rfl, ?_⟩
  refine ks_wpAny_call_super hD1 hD2 he0 rfl (fun c z => by cases z) (looks_mroIn KX0 hmro) (fun h1 e1 k1 => ?_)
  have KX1 : K.In h1 := KX0.keeps k1
  have he1 := k1 _ _ he0
  have I1 : InstAt h1 e _ C none := ⟨he1, rfl, rfl, trivial⟩
  have hsup' : alongIn K "__init__" ((cdC.mro.dropWhile (· != .ref C)).drop 1) = some (some (.builtin "ValueError.__init__")) := by
    have := hsup
    unfold ks_superIn at this
    rw [hcls] at this
    exact this
  refine kxs_getMethod kxs_ValueError e1 (looks_opaque KX1 g2) (l₀ := cdC.mro) (fun A Q E s k q => wpAny_bind ((looks_clsIn KX1 hcls) A _ E s k (wpAny_pure q))) rfl KX1 hsup' (I1.type.andThen (looks_subIn KX1 hsub)) eC (by decide) ?_
  refine kxs_callWith (i := "ValueError.__init__") (x := e) rfl (evalArgs_plain ?_)
  refine PyProof.Rows.spliced_more (wpAny_Constant_str (PyProof.Rows.spliced_none ?_)) rfl
  refine ⟨Heap.get?_push_size _ rfl, ?_⟩
  refine call_mw T.T (K := K) (KX1.keeps fun b o z => Heap.get?_push_of_some _ z) (Heap.get?_push_of_some _ he1) (Heap.get?_push_size _ rfl) (show (1 : Nat) ≤ sizeLine by rw [sizeLine_eq]; decide) (fun h3 t3 k3 e3 => ?_)
  have nD : ∀ {b : Addr} {o : Obj}, K.lookup b = some o → b ≠ e := fun {b o} z q => by
    subst q
    have z2 := KX _ _ z
    rw [ho] at z2
    cases z2
    have fr := (e0.bs b _ (e0.mod.kin _ _ z)).2
    rw [he] at fr
    cases fr
  have kk : ∀ b o, b ≠ e → hp0.get? b = some o → h3.get? b = some o := fun b o hb z => k3 b o hb (Heap.get?_push_of_some _ (k1 _ _ (hk₀ _ _ z)))
  have KX3 : K.In h3 := fun b o z => kk b o (nD z) (KX _ _ z)
  obtain ⟨nm, q, N, bs, bm, sn, sub, ab, col, dd, k0, k11, k2, k33, k5, hC, hbm⟩ := T.T.cls
  have hcl : clsIn K C = some { name := nm, bases := bs, mro := .ref C :: bm, ns := N, qualname := q, hasDict := true, slotNames := sn, subclasses := sub, abstract := ab, collection := col, hasDel := false } := by unfold clsIn; rw [hC] <;> rfl
  have hns3 : h3.Ns hp0.objs.size (fun x => ([self, a].zip [Value.ref e, u]).reverse.lookup x) := by
    obtain ⟨o, es, ep, q1, q2⟩ := hns
    refine ⟨o, es, ep, k3 _ _ (fun z => ?_) (Heap.get?_push_of_some _ (k1 _ _ q1)), q2⟩
    exact absurd (Heap.lt_size ho) (by rw [← z]; exact Nat.lt_irrefl _)
  refine ks_wpAt_execs_cons ?_
  refine ks_wpAt_Assign_Attr (wpAt_of_wpAny (wpAny_Name (wpAny_loadName_local hk n4 hns3 la (wpAny_Name (wpAny_loadName_local hk n3 hns3 lself ?_) d1)) d2))
  refine set_plain KX3 (ox := { cls := .ref C, dict := none, data := .fields #[.ref t3, .none, .none, .none, .bool false, .none] }) (od := none) ⟨e3, rfl, rfl, trivial⟩ T.T.sa ?_
  refine PySem.HandSPX.exc_osa KX3 e3 hcl (show PySem.HandSPX.refsVE (.ref C :: bm) = true from hbm) rfl T.nof (fun h' tk' dx k dn dne hx hn => ?_)
  refine wpAt_of_wpAny (wpAny_execs_nil ?_)
  have sz : hp0.objs.size ≤ h3.objs.size := by
    obtain ⟨oL, _, _, q2, _⟩ := hns3
    exact Nat.le_of_lt (Heap.lt_size q2)
  have dn0 : hp0.objs.size ≤ dx := Nat.le_trans sz dn
  have nd : ∀ {b : Addr} {o : Obj}, hp0.get? b = some o → b ≠ dx := fun {b o} z => Nat.ne_of_lt (Nat.lt_of_lt_of_le (Heap.lt_size z) dn0)
  have hnd : H dx = none := e0.hok.fresh dn0
  have na : ∀ {b : Addr}, H b = none → b ≠ e := fun {b} n z => by
    rw [z, he] at n
    cases n
  have k' : ∀ b o, b ≠ e → hp0.get? b = some o → h'.get? b = some o := fun b o hb z => k b o hb (kk b o hb z)
  refine ⟨.non, upd (upd H dx (exd dx [(fld, v)])) e (exo e C (some dx)), rfl, e0.bare, {
    keep := fun b o q n _ _ => k' b o (na n) q
    slot := fun b o q n _ _ => ⟨o.slots, k' b o (na n) q⟩
    free := fun b o q n _ => by rw [upd_ne (na n), upd_ne (nd q)]; exact n
    there := fun b o q _ => by
      by_cases hb : b = e
      · exact ⟨_, by rw [hb]; exact hx⟩
      · exact ⟨o, k' b o hb q⟩
    tups := fun b xs q => by rw [upd_ne (at_ne he q exo_tup), upd_ne (ne_of_none q hnd)]; exact q
    frzs := fun b o v q => by rw [upd_ne (at_ne he q exo_frz), upd_ne (ne_of_none q hnd)]; exact q
    tbls := fun b ps q => ⟨#[], by rw [upd_ne (at_ne he q exo_tbl), upd_ne (ne_of_none q hnd), q]; simp⟩ }, fun b o q => ?_, rfl, hq dx hnd dne⟩
  by_cases hb : b = e
  · subst hb
    rw [upd_same] at q
    cases q
    exact exo_ok hx
  · rw [upd_ne hb] at q
    by_cases hd : b = dx
    · subst hd
      rw [upd_same] at q
      cases q
      exact exd_ok hn (relO_put (fs := []) ru fun g => True.intro)
    · rw [upd_ne hd] at q
      exact (e0.hok b o q).stay (fun c v hc z => k' c v (by
          rcases hc with hc | hc
          · rw [hc]
            exact hb
          · exact at_ne he hc exo_own) z)
        (fun c hc => by rw [upd_ne (at_ne he hc exo_own), upd_ne (ne_of_none hc hnd)]; exact hc) (fun c xs hc => by rw [upd_ne (at_ne he hc exo_tup), upd_ne (ne_of_none hc hnd)]; exact hc)
end
end G

set_option Elab.async false
set_option linter.all false
set_option autoImplicit false
set_option maxRecDepth 100000
set_option maxHeartbeats 2000000
/-! GY: texts within texts; a text's front taken off; figures. -/
namespace G
open PySem L2
theorem infix_iff (x : List Nat) : ∀ y : List Nat, infixB x y = true ↔ ∃ i, i + x.length ≤ y.length ∧ ((y.drop i).take x.length == x) = true
  | [] => by
    unfold infixB
    rw [List.isPrefixOf_iff_prefix]
    constructor
    · intro h
      have : x = [] := List.prefix_nil.mp h
      subst this
      exact ⟨0, by simp, by simp⟩
    · rintro ⟨i, h, _⟩
      have hl : x.length = 0 := by
        have : i + x.length ≤ 0 := h
        omega
      have : x = [] := List.length_eq_zero_iff.mp hl
      subst this
      exact List.nil_prefix
  | c :: y => by
    have ih := infix_iff x y
    unfold infixB
    rw [Bool.or_eq_true, ih, List.isPrefixOf_iff_prefix]
    constructor
    · rintro (h | ⟨i, h1, h2⟩)
      · have hl := h.length_le
        exact ⟨0, by omega, by
          rw [List.drop_zero, beq_iff_eq]
          exact (List.prefix_iff_eq_take.mp h).symm⟩
      · exact ⟨i + 1, by rw [List.length_cons]; omega, by rw [List.drop_succ_cons]; exact h2⟩
    · rintro ⟨i, h1, h2⟩
      cases i with
      | zero =>
        left
        rw [List.drop_zero, beq_iff_eq] at h2
        exact List.prefix_iff_eq_take.mpr h2.symm
      | succ i =>
        right
        exact ⟨i, by rw [List.length_cons] at h1; omega, by rw [List.drop_succ_cons] at h2; exact h2⟩
theorem found_infix (x y : List Nat) : (!(Builtin.Str.occurrences (strOf y) (strOf x) 0 (strOf y).length 1).isEmpty) = infixB x y := by
  have lx : (strOf x).length = x.length := by simp [strOf, Str.length]
  have ly : (strOf y).length = y.length := by simp [strOf, Str.length]
  rw [Bool.eq_iff_iff, StrLaws.found_iff, infix_iff, lx, ly]
  constructor
  · rintro ⟨i, h1, h2⟩
    rw [StrLaws.subAt_eq, lx] at h2
    exact ⟨i, h1, h2⟩
  · rintro ⟨i, h1, h2⟩
    refine ⟨i, h1, ?_⟩
    rw [StrLaws.subAt_eq, lx]
    exact h2
theorem takeWhile_len {p : Nat → Bool} : ∀ l : List Nat, l.drop (l.takeWhile p).length = l.dropWhile p
  | [] => rfl
  | c :: l => by
    cases h : p c with
    | true => rw [List.takeWhile_cons_of_pos h, List.dropWhile_cons_of_pos h]; exact takeWhile_len l
    | false => rw [List.takeWhile_cons_of_neg (by simp [h]), List.dropWhile_cons_of_neg (by simp [h])]; rfl
theorem lstrip_eq (a b : List Nat) : Txt.lstripChars (strOf a) (strOf b) = strOf (a.dropWhile fun c => decide (c ∈ b)) := by
  have hp : (strOf b).cps.contains = fun c => decide (c ∈ b) := by
    funext c
    simp [strOf]
  unfold Txt.lstripChars Txt.stripBy
  rw [hp]
  have lo : PySem.stripLo (fun c => decide (c ∈ b)) true (strOf a) = (a.takeWhile fun c => decide (c ∈ b)).length := rfl
  have hi : PySem.stripHi (fun c => decide (c ∈ b)) false (strOf a) (PySem.stripLo (fun c => decide (c ∈ b)) true (strOf a)) = a.length := by
    show (strOf a).length = _
    simp [strOf, Str.length]
  have la : (strOf a).length = a.length := by simp [strOf, Str.length]
  have st : PySem.stripped (fun c => decide (c ∈ b)) true false (strOf a) = strOf (a.dropWhile fun c => decide (c ∈ b)) := by
    unfold PySem.stripped Builtin.Str.strSub
    rw [hi, lo]
    unfold strOf
    congr 1
    apply Array.toList_inj.mp
    rw [Array.toList_extract]
    simp only [List.extract]
    rw [takeWhile_len]
    apply List.take_of_length_le
    rw [← takeWhile_len, List.length_drop]
    exact Nat.le_refl _
  split
  · rename_i h
    unfold PySem.stripSame at h
    rw [hi, lo] at h
    simp only [Bool.and_eq_true, beq_iff_eq] at h
    rw [← takeWhile_len, h.1, List.drop_zero]
  · exact st
theorem int_text {l : List Nat} (h0 : l ≠ []) (h : (l.all fun c => decide (48 ≤ c) && decide (c ≤ 57)) = true) (hl : l.length ≤ 640) : PySem.intText? (strOf l) = some ((digsVal l : Nat) : Int) ∧ (strOf l).length ≤ 640 := by
  have ll : (strOf l).length = l.length := by simp [strOf, Str.length]
  refine ⟨?_, by rw [ll]; exact hl⟩
  have := PySem.intText_digits (x := strOf l) (fun c hc => ?_) h0 (by rw [ll]; omega)
  · exact this
  · have hc : c ∈ l := by simpa [strOf] using hc
    have := List.all_eq_true.mp h c hc
    simpa using this
theorem dropWhile_mem {p : Nat → Bool} : ∀ {l : List Nat} {c : Nat}, c ∈ l.dropWhile p → c ∈ l
  | [], _, h => h
  | a :: l, c, h => by
    rw [List.dropWhile_cons] at h
    split at h
    · exact List.mem_cons_of_mem _ (dropWhile_mem h)
    · exact h
end G

set_option Elab.async false
set_option linter.all false
set_option autoImplicit false
set_option maxRecDepth 100000
set_option maxHeartbeats 2000000
/-! G3: the operators. -/
namespace G
open PySem L2
section
variable {X : Cx} {C : Cn}
theorem strOf_len (l : List Nat) : (strOf l).length = l.length := by show l.toArray.size = l.length; simp
theorem strOf_app (x y : List Nat) : strOf x ++ strOf y = strOf (x ++ y) := by
  show Str.append _ _ = _
  simp [Str.append, strOf]
theorem okS_app {x y : List Nat} (a : okS x) (b : okS y) : okS (x ++ y) := fun c h => (List.mem_append.mp h).elim (a c) (b c)
theorem line_eq : line = sizeLine := by rw [sizeLine_eq]; rfl
theorem rep_flat {α : Type} (n : Nat) (xs : List α) : rep n xs = (List.replicate n xs).flatten := by
  induction n with
  | zero => rfl
  | succ n ih => simp [rep, ih, List.replicate_succ]
theorem Reps.rep {ρ : List Addr} {H : Hp} {ws : List W} {vs : List V} (r : Reps C ρ H ws vs) : ∀ n, Reps C ρ H (rep n ws) (List.replicate n vs).flatten
  | 0 => by simp only [G.rep, List.replicate_zero, List.flatten_nil, Reps]
  | n + 1 => by
    simp only [G.rep, List.replicate_succ, List.flatten_cons]
    exact Reps.app r (Reps.rep r n)
theorem okS_rep {l : List Nat} (h : okS l) : ∀ n, okS (rep n l)
  | 0 => fun _ q => nomatch q
  | n + 1 => okS_app h (okS_rep h n)
theorem rep_len {α : Type} (l : List α) : ∀ n, (rep n l).length = n * l.length
  | 0 => by simp [rep]
  | n + 1 => by rw [rep, List.length_append, rep_len l n, Nat.succ_mul, Nat.add_comm]
theorem size_repA {α : Type} (its : List α) : ∀ (m : Nat) (acc : List α), (List.foldl (fun x1 x2 => x1 ++ x2) acc.toArray (List.replicate m its.toArray)) = (acc ++ (List.replicate m its).flatten).toArray
  | 0, acc => by simp
  | m + 1, acc => by
    rw [List.replicate_succ, List.foldl_cons]
    have e : acc.toArray ++ its.toArray = (acc ++ its).toArray := by simp
    rw [e, size_repA its m (acc ++ its)]
    simp [List.replicate_succ, List.append_assoc]
/-- two values' operator -/
def rOp (C : Cn) (g : W → W → ST → Option W) : R2 := fun x y H Q => ∃ ρ s a b w, SR C ρ H s ∧ Rep C ρ H a x ∧ Rep C ρ H b y ∧ g a b s = some w ∧ OkP C ρ H s w Q
def bopO : Bop → Operator
  | .add => .Add | .sub => .Sub | .mul => .Mult | .fdiv => .FloorDiv | .mod => .Mod | .pow => .Pow
theorem big_log {i j : Int} (h0 : 0 < j) (h : j < big) : CDivW i j := by
  refine wide_div (b := 64) h0 ?_ (by decide) (by decide)
  have : big = 2 ^ 64 := rfl
  omega
theorem op_bin (hX : X.K = C.K) (op : Bop) : OpR X (binaryOp (bopO op)) (rOp C (binop op)) := by
  intro pins st σ H x y v u Q I rx ry h
  obtain ⟨ρ, s, a, b, w, S, ra, rb, e, k⟩ := h
  unfold binop at e
  split at e
  · -- int + int
    cases e
    rw [ra.int] at rx; rw [rb.int] at ry
    exact op_add pins st σ H _ _ v u Q I rx ry ⟨_, _, rfl, rfl, k.here S Rep.mkI⟩
  · rename_i x' y'
    split at e
    · rename_i hl
      cases e
      obtain ⟨e1, o1⟩ := ra.str
      obtain ⟨e2, o2⟩ := rb.str
      rw [e1] at rx; rw [e2] at ry
      refine op_add_str pins st σ H _ _ v u Q I rx ry ⟨_, _, rfl, rfl, by rw [strOf_len, strOf_len, ← line_eq]; exact hl, ?_⟩
      rw [strOf_app]
      exact k.here S (Rep.mkS (okS_app o1 o2))
    · cases e
  · split at e
    · rename_i hl
      cases e
      obtain ⟨p, vs, rfl, q1, r1⟩ := ra.tup
      obtain ⟨p2, vs2, rfl, q2, r2⟩ := rb.tup
      refine op_catA pins st σ H _ _ v u Q I rx ry ⟨p, p2, vs, vs2, rfl, rfl, hX ▸ q1.sq, hX ▸ q2.sq, by rw [← r1.length, ← r2.length, ← line_eq]; exact hl, fun h0 => ?_, fun _ h0 => ?_, fun _ _ => k.tup S (r1.app r2)⟩
      · subst h0
        have e0 := r1.length
        rw [List.length_nil, List.length_eq_zero_iff] at e0
        subst e0
        exact k.here S rb
      · subst h0
        have e0 := r2.length
        rw [List.length_nil, List.length_eq_zero_iff] at e0
        subst e0
        refine k.here S ?_
        rw [List.append_nil]; exact ra
    · cases e
  · split at e
    · rename_i xs ys h1 h2
      split at e
      · rename_i hl
        cases e
        obtain ⟨p, vs, rfl, q1, r1⟩ := seqL_rep S ra h1
        obtain ⟨p2, vs2, rfl, q2, r2⟩ := seqL_rep S rb h2
        exact op_cat pins st σ H _ _ v u Q I rx ry ⟨p, p2, vs, vs2, rfl, rfl, q1, q2, by rw [← r1.length, ← r2.length, ← line_eq]; exact hl, k.lst S (r1.app r2)⟩
      · cases e
    · cases e
  · cases e
    rw [ra.int] at rx; rw [rb.int] at ry
    exact op_sub pins st σ H _ _ v u Q I rx ry ⟨_, _, rfl, rfl, k.here S Rep.mkI⟩
  · split at e
    · rename_i hc
      cases e
      rw [ra.int] at rx; rw [rb.int] at ry
      exact op_mul pins st σ H _ _ v u Q I rx ry ⟨_, _, rfl, rfl, hc, k.here S Rep.mkI⟩
    · cases e
  · split at e
    · rename_i hc
      cases e
      rw [ra.int] at rx; rw [rb.int] at ry
      exact op_fdivW pins st σ H _ _ v u Q I rx ry ⟨_, _, rfl, rfl, big_log hc.1 hc.2, k.here S Rep.mkI⟩
    · cases e
  · split at e
    · rename_i hc
      cases e
      rw [ra.int] at rx; rw [rb.int] at ry
      exact op_mod pins st σ H _ _ v u Q I rx ry ⟨_, _, rfl, rfl, hc, k.here S Rep.mkI⟩
    · cases e
  · split at e
    · rename_i hc
      cases e
      rw [ra.int] at rx; rw [rb.int] at ry
      refine op_pow pins st σ H _ _ v u Q I rx ry ⟨_, _, rfl, rfl, ⟨hc.1, hc.2.1, ?_⟩, k.here S Rep.mkI⟩
      have : big = 2 ^ 64 := rfl
      omega
    · cases e
  · split at e
    · rename_i xs n hc
      cases e
      obtain ⟨p, vs, rfl, q1, r1⟩ := ra.tup
      rw [rb.int] at ry
      refine op_repT pins st σ H _ _ v u Q I rx ry ⟨p, _, vs, rfl, rfl, hX ▸ q1.sq, fun h0 => ?_, hc.1, hc.2.1, by rw [← r1.length]; exact hc.2.2.2, k.tup S (r1.rep _)⟩
      have := r1.length
      rw [h0, List.length_nil] at this
      omega
    · cases e
  · split at e
    · rename_i xs n hc
      cases e
      simp only [Rep] at ra
      obtain ⟨p, vs, rfl, _, q1, r1⟩ := ra
      rw [rb.int] at ry
      exact op_rep pins st σ H _ _ v u Q I rx ry ⟨p, _, vs, rfl, rfl, q1, by omega, by omega, by rw [← r1.length, ← line_eq]; exact hc.2.2, k.lst S (r1.rep _)⟩
    · cases e
  · split at e
    · rename_i xs n hc
      cases e
      obtain ⟨e1, o1⟩ := ra.str
      rw [e1] at rx; rw [rb.int] at ry
      obtain ⟨t1, rfl⟩ := rx
      obtain ⟨t2, rfl⟩ := ry
      have fin : ∀ tk, EP X pins σ Q (.str (strOf (rep n.toNat xs)) tk) { st with toks := st.toks + 1 } := fun tk => ⟨.str _, H, I.tok _, ⟨_, rfl⟩, k.here S (Rep.mkS (okS_rep o1 _))⟩
      have fin0 : ∀ tk, EP X pins σ Q (.str (strOf (rep n.toNat xs)) tk) st := fun tk => ⟨.str _, H, I, ⟨_, rfl⟩, k.here S (Rep.mkS (okS_rep o1 _))⟩
      have hl : xs.length * n.toNat ≤ sizeLine := by rw [← line_eq]; exact hc.2.2
      refine PySem.P.mul_str ?_ ?_ ?_ ?_
      · rw [decide_eq_false (by omega), decide_eq_false (by omega)]; rfl
      · intro h1 _ hgt
        have h2 : 0 < n := by omega
        have h3 : ((2 : Int) ^ 63 - 1) / n * n ≤ 2 ^ 63 - 1 := Int.ediv_mul_le _ (by omega)
        rw [strOf_len] at hgt
        have h4 : (xs.length : Int) * n.toNat ≤ sizeLine := by exact_mod_cast hl
        have hs : (sizeLine : Int) = 16777216 := by rw [sizeLine_eq]; rfl
        have hn : (n.toNat : Int) = n := Int.toNat_of_nonneg (by omega)
        rw [hn, hs] at h4
        have h5 : ((2 : Int) ^ 63 - 1) / n + 1 ≤ xs.length := hgt
        have h6 : (((2 : Int) ^ 63 - 1) / n + 1) * n ≤ xs.length * n := Int.mul_le_mul_of_nonneg_right h5 (by omega)
        have h7 : (2 : Int) ^ 63 - 1 < (((2 : Int) ^ 63 - 1) / n + 1) * n := Int.lt_mul_of_ediv_lt h2 (by omega)
        omega
      · intro _ _
        rw [strOf_len]
        unfold Builtin.Str.tooLong
        exact decide_eq_false (by omega)
      · split
        · rename_i h1
          have h0 : n.toNat = 0 := by omega
          have f := fin st.toks
          rw [h0] at f
          exact ⟨by decide, f⟩
        · split
          · rename_i h1 h2
            have e : rep n.toNat xs = xs := by
              rcases Bool.or_eq_true _ _ |>.mp h2 with h | h
              · have : n = 1 := by simpa using h
                subst this
                show xs ++ [] = xs
                simp
              · have : xs.length = 0 := by rw [← strOf_len]; simpa using h
                rw [List.length_eq_zero_iff] at this
                subst this
                rw [rep_flat]
                generalize n.toNat = m
                induction m with
                | zero => rfl
                | succ m ih => simpa [List.replicate_succ] using ih
            have f := fin0 t1
            rw [e] at f
            exact f
          · have e : (⟨(List.replicate n.toNat (strOf xs).cps).foldl (· ++ ·) #[]⟩ : Str) = strOf (rep n.toNat xs) := by
              rw [rep_flat]
              have := size_repA xs n.toNat []
              show (⟨(List.replicate n.toNat xs.toArray).foldl (· ++ ·) #[]⟩ : Str) = ⟨_⟩
              rw [this]; rfl
            rw [e]
            refine ⟨?_, fin _⟩
            rw [strOf_len, rep_len, Nat.mul_comm]
            exact hl
    · cases e
  · cases e
end
end G

set_option Elab.async false
set_option linter.all false
set_option autoImplicit false
set_option maxRecDepth 100000
set_option maxHeartbeats 2000000
/-! G4: comparisons. -/
namespace G
open PySem L2
section
variable {C : Cn} {ρ : List Addr} {H : Hp}
/-- a value as it is read: a list may be one of the store -/
def Vw (C : Cn) (ρ : List Addr) (H : Hp) : W → V → Prop
  | .lst xs, v => ∃ p vs, v = .ref p ∧ H p = some (.lst vs) ∧ Reps C ρ H xs vs
  | a, v => Rep C ρ H a v
theorem Rep.vw {a : W} {v : V} (r : Rep C ρ H a v) : Vw C ρ H a v := by
  cases a with
  | lst xs =>
    simp only [Rep] at r
    obtain ⟨p, vs, e, _, e2, q⟩ := r
    exact ⟨p, vs, e, e2, q⟩
  | _ => exact r
theorem deref_vw {s : ST} {a b : W} {v : V} (S : SR C ρ H s) (r : Rep C ρ H a v) (h : deref s a = some b) : Vw C ρ H b v := by
  cases a with
  | ref n =>
    simp only [deref] at h
    split at h
    · rename_i xs e
      cases h
      obtain ⟨p, vs, e1, e2, q⟩ := seqL_rep (a := .ref n) (xs := xs) S r e
      exact ⟨p, vs, e1, e2, q⟩
    · cases h
  | htup xs =>
    simp only [deref, Option.some.injEq] at h; subst h
    exact (Rep.soft (.htup xs) v r).vw
  | _ => simp only [deref, Option.some.injEq] at h; subst h; exact r.vw
def pairE (xs ys : List W) (j : Nat) : Bool := weq (xs.getD j .non) (ys.getD j .non)
theorem weqs_all : ∀ xs ys : List W, ((List.range (min xs.length ys.length)).all (pairE xs ys) && xs.length == ys.length) = weqs xs ys
  | [], [] => by simp [weqs]
  | [], _ :: _ => by simp [weqs]
  | _ :: _, [] => by simp [weqs]
  | x :: xs, y :: ys => by
    have ih := weqs_all xs ys
    have e : min (xs.length + 1) (ys.length + 1) = min xs.length ys.length + 1 := by omega
    have e2 : ((List.range (min xs.length ys.length + 1)).all (pairE (x :: xs) (y :: ys))) = (weq x y && (List.range (min xs.length ys.length)).all (pairE xs ys)) := by
      rw [List.range_succ_eq_map, List.all_cons, List.all_map]
      rfl
    rw [List.length_cons, List.length_cons, e, e2, weqs, ← ih]
    cases weq x y <;> simp
theorem weqs_len {xs ys : List W} (h : xs.length ≠ ys.length) : weqs xs ys = false := by
  rw [← weqs_all]
  simp [h]
theorem eqOks_get : ∀ {n : Nat} {xs ys : List W} {j : Nat}, eqOks n xs ys = true → j < xs.length → j < ys.length → eqOk n (xs.getD j .non) (ys.getD j .non) = true
  | n, [], _, _, _, h, _ => by simp at h
  | n, _ :: _, [], _, _, _, h => by simp at h
  | n, x :: xs, y :: ys, 0, h, _, _ => by
    simp only [eqOks, Bool.and_eq_true] at h
    simpa using h.1
  | n, x :: xs, y :: ys, j + 1, h, h1, h2 => by
    simp only [eqOks, Bool.and_eq_true] at h
    have := eqOks_get (j := j) h.2 (by simpa using h1) (by simpa using h2)
    simpa using this
theorem Reps.getD {ws : List W} {vs : List V} {us : List Value} (r : Reps C ρ H ws vs) (q : Vals vs us) {j : Nat} (h : j < us.length) : ∃ v, Rep C ρ H (ws.getD j .non) v ∧ RelV v us[j] := by
  have h1 : j < vs.length := by rw [q.length]; exact h
  have h2 : j < ws.length := by rw [r.length]; exact h1
  obtain ⟨v, e1, r1⟩ := r.get (i := j) (w := ws[j]) (List.getElem?_eq_getElem h2)
  obtain ⟨u, e2, r2⟩ := q.get e1
  refine ⟨v, ?_, ?_⟩
  · rw [List.getD_eq_getElem?_getD, List.getElem?_eq_getElem h2]; exact r1
  · rw [List.getElem?_eq_getElem h] at e2
    cases e2; exact r2
theorem sc_flat {a : W} {v : V} (h : isSc a = true) (r : Vw C ρ H a v) : flatV v = true := by
  cases a <;> simp only [isSc, Bool.false_eq_true] at h <;> simp only [Vw, Rep] at r
  · subst r; rfl
  · subst r; rfl
  · subst r; rfl
  · obtain ⟨r, _⟩ := r; subst r; rfl
theorem eqV_rfl : ∀ {v : V}, flatV v = true → eqV v v = true
  | .non, _ => rfl
  | .bl b, _ => by simp [eqV]
  | .int i, _ => by simp [eqV]
  | .str x, _ => by simp [eqV]
theorem strOf_beq (x y : List Nat) : (strOf x == strOf y) = (x == y) := by
  rw [Bool.eq_iff_iff]
  simp [strOf]
theorem sc_eq {a b : W} {x y : V} (h : isSc a = true) (h' : isSc b = true) (ra : Vw C ρ H a x) (rb : Vw C ρ H b y) : weq a b = eqV x y := by
  cases a <;> simp only [isSc, Bool.false_eq_true] at h <;> cases b <;> simp only [isSc, Bool.false_eq_true] at h' <;> simp only [Vw, Rep] at ra rb
  all_goals first
    | (subst ra; subst rb; rfl)
    | (obtain ⟨ra, _⟩ := ra; subst ra; subst rb; rfl)
    | (obtain ⟨rb, _⟩ := rb; subst ra; subst rb; rfl)
    | (obtain ⟨ra, _⟩ := ra; obtain ⟨rb, _⟩ := rb; subst ra; subst rb; simp only [weq, eqV, strOf_beq])
theorem sq_ref {a : W} {v : V} (h : isSq a = true) (r : Vw C ρ H a v) : ∃ p, v = .ref p := by
  cases a <;> simp only [isSq, Bool.false_eq_true] at h
  · simp only [Vw, Rep] at r; obtain ⟨p, _, e, _⟩ := r; exact ⟨p, e⟩
  · simp only [Vw] at r; obtain ⟨p, _, e, _⟩ := r; exact ⟨p, e⟩
theorem sc_sq {a b : W} (h : isSc a = true) (h' : isSq b = true) : weq a b = false ∧ weq b a = false := by
  cases a <;> simp only [isSc, Bool.false_eq_true] at h <;> cases b <;> simp only [isSq, Bool.false_eq_true] at h' <;> simp [weq]
theorem sc_or_sq {n : Nat} {a b : W} (h : eqOk n a b = true) : (isSc a = true ∨ isSq a = true) ∧ (isSc b = true ∨ isSq b = true) := by
  cases n <;> cases a <;> cases b <;> simp [eqOk, isSc, isSq] at h ⊢
/-- two that stand at one address -/
theorem weq_same (hT : ∀ p xs ys, RT C ρ H p xs → RT C ρ H p ys → xs = ys) (hL : ∀ p xs ys, RT C ρ H p xs → H p = some (.lst ys) → False) :
    ∀ (n : Nat) (a b : W) (v : V), Vw C ρ H a v → Vw C ρ H b v → eqOk n a b = true → weq a b = true := by
  intro n
  have flat : ∀ (a b : W) (v : V), isSc a = true → isSc b = true → Vw C ρ H a v → Vw C ρ H b v → weq a b = true := fun a b v h1 h2 ra rb => by
    rw [sc_eq h1 h2 ra rb]
    exact eqV_rfl (sc_flat h1 ra)
  have mix : ∀ (a b : W) (v : V), isSc a = true → isSq b = true → Vw C ρ H a v → Vw C ρ H b v → False := fun a b v h1 h2 ra rb => by
    obtain ⟨p, rfl⟩ := sq_ref h2 rb
    have := sc_flat h1 ra
    simp [flatV] at this
  induction n with
  | zero =>
    intro a b v ra rb h
    simp only [eqOk, Bool.and_eq_true, Bool.or_eq_true] at h
    rcases h with ⟨h1, h2 | h2⟩ | ⟨h1, h2⟩
    · exact flat a b v h1 h2 ra rb
    · exact (mix a b v h1 h2 ra rb).elim
    · exact (mix b a v h2 h1 rb ra).elim
  | succ n ih =>
    intro a b v ra rb h
    have rows : ∀ (xs ys : List W) (vs : List V), Reps C ρ H xs vs → Reps C ρ H ys vs → eqOks n xs ys = true → weqs xs ys = true := by
      intro xs
      induction xs with
      | nil =>
        intro ys vs r1 r2 _
        have := r1.nil'; subst this
        have := r2.length
        cases ys with
        | nil => rfl
        | cons _ _ => simp at this
      | cons x xs ih2 =>
        intro ys vs r1 r2 hq
        obtain ⟨v, us, rfl, p1, p2⟩ := r1.cons'
        cases ys with
        | nil => have := r2.nil'; cases this
        | cons y ys =>
          obtain ⟨v', us', e, q1, q2⟩ := r2.cons'
          cases e
          simp only [eqOks, Bool.and_eq_true] at hq
          simp only [weqs, Bool.and_eq_true]
          exact ⟨ih x y v p1.vw q1.vw hq.1, ih2 ys us p2 q2 hq.2⟩
    obtain ⟨ka, kb⟩ := sc_or_sq h
    rcases ka with ka | ka
    · rcases kb with kb | kb
      · exact flat a b v ka kb ra rb
      · exact (mix a b v ka kb ra rb).elim
    · rcases kb with kb | kb
      · exact (mix b a v kb ka rb ra).elim
      · cases a <;> simp only [isSq, Bool.false_eq_true] at ka <;> cases b <;> simp only [isSq, Bool.false_eq_true] at kb
        · simp only [Vw, Rep] at ra rb
          obtain ⟨p, vs, rfl, r1, q1⟩ := ra
          obtain ⟨p', vs', e, r2, q2⟩ := rb
          cases e
          have := hT _ _ _ r1 r2
          subst this
          simp only [eqOk] at h
          simp only [weq]
          exact rows _ _ _ q1 q2 h
        · simp only [Vw, Rep] at ra rb
          obtain ⟨p, vs, rfl, r1, q1⟩ := ra
          obtain ⟨p', vs', e, r2, q2⟩ := rb
          cases e
          exact (hL _ _ _ r1 r2).elim
        · simp only [Vw, Rep] at ra rb
          obtain ⟨p, vs, rfl, r1, q1⟩ := ra
          obtain ⟨p', vs', e, r2, q2⟩ := rb
          cases e
          exact (hL _ _ _ r2 r1).elim
        · simp only [Vw] at ra rb
          obtain ⟨p, vs, rfl, r1, q1⟩ := ra
          obtain ⟨p', vs', e, r2, q2⟩ := rb
          cases e
          rw [r1] at r2; cases r2
          simp only [eqOk, Bool.or_eq_true] at h
          simp only [weq]
          rcases h with h | h
          · have := q1.length
            have := q2.length
            simp at h
            omega
          · exact rows _ _ _ q1 q2 h
end
section
variable {X : Cx} {C : Cn} {ρ : List Addr} {H : Hp} {pins : List (Addr × Obj)} {σ : St} {st : Shared}
theorem Inv.rt_inj (I : Inv X pins σ H st) (hX : X.K = C.K) : ∀ p xs ys, RT C ρ H p xs → RT C ρ H p ys → xs = ys := fun p xs ys a b => I.tuple_inj (hX ▸ a.sq) (hX ▸ b.sq)
theorem Inv.rt_lst (I : Inv X pins σ H st) (hX : X.K = C.K) : ∀ p xs ys, RT C ρ H p xs → H p = some (.lst ys) → False := fun p xs ys a b => by
  obtain ⟨its, r, ⟨o, e, c, _⟩, _⟩ := I.tuple (hX ▸ a.sq)
  obtain ⟨its', r', ⟨o', n', e', c', _, _⟩, _⟩ := I.list (X := X) (SqL.of b)
  rw [e] at e'; cases e'
  rw [c] at c'
  simp at c'
/-- how it stands in the model's heap -/
theorem Vw.lst (I : Inv X pins σ H st) {xs : List W} {v : V} {u : Value} (r : Vw C ρ H (.lst xs) v) (rv : RelV v u) : ∃ p its vs, u = .ref p ∧ st.heap.IsList p (List.toArray its) ∧ Reps C ρ H xs vs ∧ Vals vs its := by
  simp only [Vw] at r
  obtain ⟨p, vs, rfl, e, q⟩ := r
  obtain ⟨its, rr, pl, _⟩ := I.list (X := X) (SqL.of e)
  exact ⟨p, its, vs, rv, pl.isList, q, rr⟩
theorem Vw.tup (I : Inv X pins σ H st) (hX : X.K = C.K) {xs : List W} {v : V} {u : Value} (r : Vw C ρ H (.tup xs) v) (rv : RelV v u) : ∃ p its vs, u = .ref p ∧ st.heap.IsTuple p (List.toArray its) ∧ Reps C ρ H xs vs ∧ Vals vs its := by
  simp only [Vw, Rep] at r
  obtain ⟨p, vs, rfl, e, q⟩ := r
  obtain ⟨its, rr, pl, _⟩ := I.tuple (X := X) (hX ▸ e.sq)
  exact ⟨p, its, vs, rv, pl, q, rr⟩
theorem items_e {n : Nat} {xs ys : List W} {vs vs' : List V} {its its' : List Value} {A : Around} (q1 : Reps C ρ H xs vs) (r1 : Vals vs its) (q2 : Reps C ρ H ys vs') (r2 : Vals vs' its') (h : eqOks n xs ys = true)
    (ih : ∀ (a b : W) (x y : V) (v u : Value), Vw C ρ H a x → Vw C ρ H b y → RelV x v → RelV y u → eqOk n a b = true → SeqAt.EqAt A.in1 st v u (weq a b)) :
    ∀ j (h1 : j < its.toArray.size) (h2 : j < its'.toArray.size), SeqAt.EqAt A.in1 st its.toArray[j] its'.toArray[j] (pairE xs ys j) := fun j h1 h2 => by
  have h1' : j < its.length := by simpa using h1
  have h2' : j < its'.length := by simpa using h2
  obtain ⟨v, a1, a2⟩ := q1.getD r1 h1'
  obtain ⟨v', b1, b2⟩ := q2.getD r2 h2'
  have := ih _ _ _ _ _ _ a1.vw b1.vw a2 b2 (eqOks_get h (by rw [q1.length, r1.length]; exact h1') (by rw [q2.length, r2.length]; exact h2'))
  simpa [pairE] using this
theorem sz_of {xs : List W} {vs : List V} {its : List Value} (q : Reps C ρ H xs vs) (r : Vals vs its) : its.toArray.size = xs.length := by
  rw [List.size_toArray, ← r.length, ← q.length]
theorem eq_sc (hX : X.K = C.K) (I : Inv X pins σ H st) {A : Around} (hu : A.units < cLine) {a b : W} {x y : V} {v u : Value} (ra : Vw C ρ H a x) (rb : Vw C ρ H b y) (rv : RelV x v) (ru : RelV y u) (ka : isSc a = true) (kb : isSq b = true) :
    SeqAt.EqAt A st v u (weq a b) ∧ SeqAt.RcAt A st v u (weq a b) ∧ SeqAt.RcNeAt A st v u (!weq a b) := by
  rw [(sc_sq ka kb).1]
  cases b <;> simp only [isSq, Bool.false_eq_true] at kb
  · obtain ⟨p, its, vs, rfl, hl, _, _⟩ := Vw.tup I hX rb ru
    cases a <;> simp only [isSc, Bool.false_eq_true] at ka <;> simp only [Vw, Rep] at ra
    · subst ra; cases rv; exact ⟨SeqAt.EqAt.none_tuple hl hu, SeqAt.RcAt.none_tuple hl hu, SeqAt.RcNeAt.none_tuple hl hu⟩
    · subst ra; cases rv; exact ⟨SeqAt.EqAt.bool_tuple _ hl hu, SeqAt.RcAt.bool_tuple _ hl hu, SeqAt.RcNeAt.bool_tuple _ hl hu⟩
    · subst ra; obtain ⟨t, rfl⟩ := rv; exact ⟨SeqAt.EqAt.int_tuple _ _ hl hu, SeqAt.RcAt.int_tuple _ _ hl hu, SeqAt.RcNeAt.int_tuple _ _ hl hu⟩
    · obtain ⟨ra, _⟩ := ra; subst ra; obtain ⟨t, rfl⟩ := rv; exact ⟨SeqAt.EqAt.str_tuple _ _ hl hu, SeqAt.RcAt.str_tuple _ _ hl hu, SeqAt.RcNeAt.str_tuple _ _ hl hu⟩
  · obtain ⟨p, its, vs, rfl, hl, _, _⟩ := Vw.lst I rb ru
    cases a <;> simp only [isSc, Bool.false_eq_true] at ka <;> simp only [Vw, Rep] at ra
    · subst ra; cases rv; exact ⟨SeqAt.EqAt.none_list hl hu, SeqAt.RcAt.none_list hl hu, SeqAt.RcNeAt.none_list hl hu⟩
    · subst ra; cases rv; exact ⟨SeqAt.EqAt.bool_list _ hl hu, SeqAt.RcAt.bool_list _ hl hu, SeqAt.RcNeAt.bool_list _ hl hu⟩
    · subst ra; obtain ⟨t, rfl⟩ := rv; exact ⟨SeqAt.EqAt.int_list _ _ hl hu, SeqAt.RcAt.int_list _ _ hl hu, SeqAt.RcNeAt.int_list _ _ hl hu⟩
    · obtain ⟨ra, _⟩ := ra; subst ra; obtain ⟨t, rfl⟩ := rv; exact ⟨SeqAt.EqAt.str_list _ _ hl hu, SeqAt.RcAt.str_list _ _ hl hu, SeqAt.RcNeAt.str_list _ _ hl hu⟩
theorem eq_sq (hX : X.K = C.K) (I : Inv X pins σ H st) {A : Around} (hu : A.units < cLine) {a b : W} {x y : V} {v u : Value} (ra : Vw C ρ H a x) (rb : Vw C ρ H b y) (rv : RelV x v) (ru : RelV y u) (ka : isSq a = true) (kb : isSc b = true) :
    SeqAt.EqAt A st v u (weq a b) ∧ SeqAt.RcAt A st v u (weq a b) ∧ SeqAt.RcNeAt A st v u (!weq a b) := by
  rw [(sc_sq kb ka).2]
  cases a <;> simp only [isSq, Bool.false_eq_true] at ka
  · obtain ⟨p, its, vs, rfl, hl, _, _⟩ := Vw.tup I hX ra rv
    cases b <;> simp only [isSc, Bool.false_eq_true] at kb <;> simp only [Vw, Rep] at rb
    · subst rb; cases ru; exact ⟨SeqAt.EqAt.tuple_none hl hu, SeqAt.RcAt.tuple_none hl hu, SeqAt.RcNeAt.tuple_none hl hu⟩
    · subst rb; cases ru; exact ⟨SeqAt.EqAt.tuple_bool _ hl hu, SeqAt.RcAt.tuple_bool _ hl hu, SeqAt.RcNeAt.tuple_bool _ hl hu⟩
    · subst rb; obtain ⟨t, rfl⟩ := ru; exact ⟨SeqAt.EqAt.tuple_int _ _ hl hu, SeqAt.RcAt.tuple_int _ _ hl hu, SeqAt.RcNeAt.tuple_int _ _ hl hu⟩
    · obtain ⟨rb, _⟩ := rb; subst rb; obtain ⟨t, rfl⟩ := ru; exact ⟨SeqAt.EqAt.tuple_str _ _ hl hu, SeqAt.RcAt.tuple_str _ _ hl hu, SeqAt.RcNeAt.tuple_str _ _ hl hu⟩
  · obtain ⟨p, its, vs, rfl, hl, _, _⟩ := Vw.lst I ra rv
    cases b <;> simp only [isSc, Bool.false_eq_true] at kb <;> simp only [Vw, Rep] at rb
    · subst rb; cases ru; exact ⟨SeqAt.EqAt.list_none hl hu, SeqAt.RcAt.list_none hl hu, SeqAt.RcNeAt.list_none hl hu⟩
    · subst rb; cases ru; exact ⟨SeqAt.EqAt.list_bool _ hl hu, SeqAt.RcAt.list_bool _ hl hu, SeqAt.RcNeAt.list_bool _ hl hu⟩
    · subst rb; obtain ⟨t, rfl⟩ := ru; exact ⟨SeqAt.EqAt.list_int _ _ hl hu, SeqAt.RcAt.list_int _ _ hl hu, SeqAt.RcNeAt.list_int _ _ hl hu⟩
    · obtain ⟨rb, _⟩ := rb; subst rb; obtain ⟨t, rfl⟩ := ru; exact ⟨SeqAt.EqAt.list_str _ _ hl hu, SeqAt.RcAt.list_str _ _ hl hu, SeqAt.RcNeAt.list_str _ _ hl hu⟩
theorem RcAt_flat {A : Around} {y x : V} {u v : Value} (ry : RelV y u) (rx : RelV x v) (fy : flatV y = true) (fx : flatV x = true) : SeqAt.RcAt A st u v (eqV y x) ∧ SeqAt.RcNeAt A st u v (!eqV y x) := by
  cases y <;> simp only [flatV, Bool.false_eq_true] at fy <;> cases x <;> simp only [flatV, Bool.false_eq_true] at fx
  · cases ry; cases rx; exact ⟨SeqAt.RcAt.none_none, SeqAt.RcNeAt.none_none⟩
  · cases ry; cases rx; exact ⟨SeqAt.RcAt.none_bool _, SeqAt.RcNeAt.none_bool _⟩
  · cases ry; obtain ⟨t, rfl⟩ := rx; exact ⟨SeqAt.RcAt.none_int _ _, SeqAt.RcNeAt.none_int _ _⟩
  · cases ry; obtain ⟨t, rfl⟩ := rx; exact ⟨SeqAt.RcAt.none_str _ _, SeqAt.RcNeAt.none_str _ _⟩
  · cases ry; cases rx; exact ⟨SeqAt.RcAt.bool_none _, SeqAt.RcNeAt.bool_none _⟩
  · cases ry; cases rx; exact ⟨SeqAt.RcAt.bool_bool _ _, SeqAt.RcNeAt.bool_bool _ _⟩
  · cases ry; obtain ⟨t, rfl⟩ := rx; exact ⟨SeqAt.RcAt.bool_int _ _ _, SeqAt.RcNeAt.bool_int _ _ _⟩
  · cases ry; obtain ⟨t, rfl⟩ := rx; exact ⟨SeqAt.RcAt.bool_str _ _ _, SeqAt.RcNeAt.bool_str _ _ _⟩
  · obtain ⟨t', rfl⟩ := ry; cases rx; exact ⟨SeqAt.RcAt.int_none _ _, SeqAt.RcNeAt.int_none _ _⟩
  · obtain ⟨t', rfl⟩ := ry; cases rx; exact ⟨SeqAt.RcAt.int_bool _ _ _, SeqAt.RcNeAt.int_bool _ _ _⟩
  · obtain ⟨t', rfl⟩ := ry; obtain ⟨t, rfl⟩ := rx; exact ⟨SeqAt.RcAt.int_int _ _ _ _, SeqAt.RcNeAt.int_int _ _ _ _⟩
  · obtain ⟨t', rfl⟩ := ry; obtain ⟨t, rfl⟩ := rx; exact ⟨SeqAt.RcAt.int_str _ _ _ _, SeqAt.RcNeAt.int_str _ _ _ _⟩
  · obtain ⟨t', rfl⟩ := ry; cases rx; exact ⟨SeqAt.RcAt.str_none _ _, SeqAt.RcNeAt.str_none _ _⟩
  · obtain ⟨t', rfl⟩ := ry; cases rx; exact ⟨SeqAt.RcAt.str_bool _ _ _, SeqAt.RcNeAt.str_bool _ _ _⟩
  · obtain ⟨t', rfl⟩ := ry; obtain ⟨t, rfl⟩ := rx; exact ⟨SeqAt.RcAt.str_int _ _ _ _, SeqAt.RcNeAt.str_int _ _ _ _⟩
  · obtain ⟨t', rfl⟩ := ry; obtain ⟨t, rfl⟩ := rx; exact ⟨SeqAt.RcAt.str_str _ _ _ _, SeqAt.RcNeAt.str_str _ _ _ _⟩
/-- EQUALITY: the model's answers are weq's -/
theorem eq_at (hX : X.K = C.K) (I : Inv X pins σ H st) : ∀ (n : Nat) (A : Around), A.units + n < cLine → ∀ (a b : W) (x y : V) (v u : Value), Vw C ρ H a x → Vw C ρ H b y → RelV x v → RelV y u → eqOk n a b = true →
    SeqAt.EqAt A st v u (weq a b) ∧ SeqAt.RcAt A st v u (weq a b) ∧ SeqAt.RcNeAt A st v u (!weq a b) := by
  intro n
  induction n with
  | zero =>
    intro A hu a b x y v u ra rb rv ru h
    simp only [eqOk, Bool.and_eq_true, Bool.or_eq_true] at h
    rcases h with ⟨h1, h2 | h2⟩ | ⟨h1, h2⟩
    · rw [sc_eq h1 h2 ra rb]
      exact ⟨eqAt_V rv ru (sc_flat h1 ra) (sc_flat h2 rb), RcAt_flat rv ru (sc_flat h1 ra) (sc_flat h2 rb)⟩
    · exact eq_sc hX I (by omega) ra rb rv ru h1 h2
    · exact eq_sq hX I (by omega) ra rb rv ru h1 h2
  | succ n ih =>
    intro A hu a b x y v u ra rb rv ru h
    have hu0 : A.units < cLine := by omega
    have hin : A.in1.units + n < cLine := by show A.units + 1 + n < cLine; omega
    obtain ⟨ka, kb⟩ := sc_or_sq h
    rcases ka with ka | ka
    · rcases kb with kb | kb
      · rw [sc_eq ka kb ra rb]
        exact ⟨eqAt_V rv ru (sc_flat ka ra) (sc_flat kb rb), RcAt_flat rv ru (sc_flat ka ra) (sc_flat kb rb)⟩
      · exact eq_sc hX I hu0 ra rb rv ru ka kb
    · rcases kb with kb | kb
      · exact eq_sq hX I hu0 ra rb rv ru ka kb
      · have same : ∀ p, v = .ref p → u = .ref p → weq a b = true := fun p e1 e2 => by
          have : x = y := by
            subst e1; subst e2
            obtain ⟨px, rfl⟩ := sq_ref ka ra
            obtain ⟨py, rfl⟩ := sq_ref kb rb
            cases rv; cases ru; rfl
          subst this
          exact weq_same (Inv.rt_inj I hX) (Inv.rt_lst I hX) (n + 1) a b x ra rb h
        have wrap : ∀ p q k, v = .ref p → u = .ref q → weq a b = k → SeqAt.RcAt A st (.ref p) (.ref q) k → SeqAt.EqAt A st (.ref p) (.ref q) k := fun p q k e1 e2 e3 hk => by
          by_cases e : p = q
          · subst e
            rw [same p e1 e2] at e3
            subst e3
            exact SeqAt.EqAt.same _
          · exact SeqAt.EqAt.of_refs e hk
        cases a <;> simp only [isSq, Bool.false_eq_true] at ka <;> cases b <;> simp only [isSq, Bool.false_eq_true] at kb
        · rename_i xs ys
          obtain ⟨p, its, vs, rfl, hl, q1, r1⟩ := Vw.tup I hX ra rv
          obtain ⟨p2, its2, vs2, rfl, hl2, q2, r2⟩ := Vw.tup I hX rb ru
          simp only [eqOk] at h
          have hit := items_e (st := st) (A := A) q1 r1 q2 r2 h fun a b x y v u c1 c2 c3 c4 c5 => (ih A.in1 hin a b x y v u c1 c2 c3 c4 c5).1
          have ew : ((List.range (min its.toArray.size its2.toArray.size)).all (pairE xs ys) && its.toArray.size == its2.toArray.size) = weq (.tup xs) (.tup ys) := by
            rw [sz_of q1 r1, sz_of q2 r2, weqs_all]; simp only [weq]
          have k1 := SeqAt.RcAt.tuples hl hl2 hu0 hit
          have k2 := SeqAt.RcNeAt.tuples hl hl2 hu0 hit
          rw [ew] at k1 k2
          exact ⟨wrap _ _ _ rfl rfl rfl k1, k1, k2⟩
        · obtain ⟨p, its, vs, rfl, hl, q1, r1⟩ := Vw.tup I hX ra rv
          obtain ⟨p2, its2, vs2, rfl, hl2, q2, r2⟩ := Vw.lst I rb ru
          simp only [weq]
          exact ⟨SeqAt.EqAt.tuple_list hl hl2 hu0, SeqAt.RcAt.tuple_list hl hl2 hu0, SeqAt.RcNeAt.tuple_list hl hl2 hu0⟩
        · obtain ⟨p, its, vs, rfl, hl, q1, r1⟩ := Vw.lst I ra rv
          obtain ⟨p2, its2, vs2, rfl, hl2, q2, r2⟩ := Vw.tup I hX rb ru
          simp only [weq]
          exact ⟨SeqAt.EqAt.list_tuple hl hl2 hu0, SeqAt.RcAt.list_tuple hl hl2 hu0, SeqAt.RcNeAt.list_tuple hl hl2 hu0⟩
        · rename_i xs ys
          obtain ⟨p, its, vs, rfl, hl, q1, r1⟩ := Vw.lst I ra rv
          obtain ⟨p2, its2, vs2, rfl, hl2, q2, r2⟩ := Vw.lst I rb ru
          simp only [eqOk, Bool.or_eq_true] at h
          by_cases hn : xs.length = ys.length
          · have h' : eqOks n xs ys = true := by
              rcases h with h | h
              · simp [hn] at h
              · exact h
            have hit := items_e (st := st) (A := A) q1 r1 q2 r2 h' fun a b x y v u c1 c2 c3 c4 c5 => (ih A.in1 hin a b x y v u c1 c2 c3 c4 c5).1
            have hsz : its.toArray.size = its2.toArray.size := by rw [sz_of q1 r1, sz_of q2 r2]; exact hn
            have ew : (List.range its.toArray.size).all (pairE xs ys) = weq (.lst xs) (.lst ys) := by
              have := weqs_all xs ys
              rw [← hn, Nat.min_self] at this
              rw [sz_of q1 r1]; simp only [weq]
              rw [← this]; simp
            have k1 := SeqAt.RcAt.lists hl hl2 hsz hu0 hit
            have k2 := SeqAt.RcNeAt.lists hl hl2 hsz hu0 hit
            rw [ew] at k1 k2
            exact ⟨wrap _ _ _ rfl rfl rfl k1, k1, k2⟩
          · have hsz : (its.toArray.size != its2.toArray.size) = true := by rw [sz_of q1 r1, sz_of q2 r2]; simpa using hn
            have ew : weq (.lst xs) (.lst ys) = false := by simp only [weq]; exact weqs_len hn
            have k1 := SeqAt.RcAt.lists_lengths hl hl2 hsz hu0
            have k2 := SeqAt.RcNeAt.lists_lengths hl hl2 hsz hu0
            rw [ew]
            exact ⟨wrap _ _ _ rfl rfl ew k1, k1, k2⟩

end
section
variable {X : Cx} {C : Cn}
def copO : Cop → CmpOp
  | .eq => .Eq | .ne => .NotEq | .lt => .Lt | .le => .LtE | .gt => .Gt | .ge => .GtE | .is => .Is | .isnot => .IsNot | .isin => .In | .notin => .NotIn
theorem slt_lt : ∀ (x y : List Nat), slt x y = decide (x < y)
  | [], [] => by simp [slt]
  | _ :: _, [] => by simp [slt]
  | [], _ :: _ => by simp [slt]
  | a :: x, b :: y => by
    have ih := slt_lt x y
    simp only [slt]
    split
    · rename_i h
      simp [List.cons_lt_cons_iff, h]
    · split
      · rename_i h1 h2
        have : ¬ a = b := by omega
        simp [List.cons_lt_cons_iff, h1, this]
      · rename_i h1 h2
        have : a = b := by omega
        subst this
        simp [List.cons_lt_cons_iff, ih]
theorem Reps.at_ {ρ : List Addr} {H : Hp} : ∀ {ws : List W} {vs : List V} {us : List Value} {j : Nat} {u : Value}, Reps C ρ H ws vs → Vals vs us → us[j]? = some u → ∃ w v, ws[j]? = some w ∧ Rep C ρ H w v ∧ RelV v u
  | ws, vs, us, j, u, r, q, e => by
    have hj := (List.getElem?_eq_some_iff.mp e).1
    obtain ⟨v, a1, a2⟩ := r.getD q hj
    have hw : j < ws.length := by rw [r.length, q.length]; exact hj
    refine ⟨ws[j], v, List.getElem?_eq_getElem hw, ?_, ?_⟩
    · rw [List.getD_eq_getElem?_getD, List.getElem?_eq_getElem hw] at a1; exact a1
    · rw [List.getElem?_eq_getElem hj] at e; cases e; exact a2
open Classical in
theorem vw_any {ρ : List Addr} {H : Hp} {pins : List (Addr × Obj)} {σ : St} {st : Shared} (hX : X.K = C.K) (I : L2.Inv X pins σ H st) {A : Around} (hu : A.units + 63 < cLine) {a : W} {x : V} {v : Value} (ra : Vw C ρ H a x) (rv : RelV x v)
    {ys : List W} {vs : List V} {us : List Value} (r : Reps C ρ H ys vs) (q : Vals vs us) (h : memOk a ys = true) : ∃ e : Value → Bool, (∀ u ∈ us, SeqAt.EqAt A st u v (e u)) ∧ us.any e = ys.any fun y => weq y a := by
  have all : ∀ j y, ys[j]? = some y → eqOk 63 y a = true := fun j y e => by
    simp only [memOk, List.all_eq_true] at h
    exact h y (List.mem_of_getElem? e)
  have ans : ∀ j u y, us[j]? = some u → ys[j]? = some y → SeqAt.EqAt A st u v (weq y a) := fun j u y e1 e2 => by
    obtain ⟨w', v', a1, a2, a3⟩ := r.at_ q e1
    rw [e2] at a1; cases a1
    exact (eq_at hX I 63 A hu y a v' x u v a2.vw ra a3 rv (all j y e2)).1
  refine ⟨fun (u : Value) => decide (∃ (j : Nat) (y : W), us[j]? = some u ∧ ys[j]? = some y ∧ weq y a = true), fun u hu' => ?_, ?_⟩
  · obtain ⟨j, hj⟩ := List.mem_iff_getElem?.mp hu'
    by_cases hc : ∃ (j : Nat) (y : W), us[j]? = some u ∧ ys[j]? = some y ∧ weq y a = true
    · show SeqAt.EqAt A st u v (decide _)
      rw [decide_eq_true hc]
      obtain ⟨j', y, e1, e2, e3⟩ := hc
      rw [← e3]
      exact ans j' u y e1 e2
    · show SeqAt.EqAt A st u v (decide _)
      rw [decide_eq_false hc]
      obtain ⟨w', v', a1, _, _⟩ := r.at_ q hj
      have : weq w' a = false := by
        cases hw : weq w' a with
        | false => rfl
        | true => exact (hc ⟨j, w', hj, a1, hw⟩).elim
      rw [← this]
      exact ans j u w' hj a1
  · rw [Bool.eq_iff_iff, List.any_eq_true, List.any_eq_true]
    constructor
    · rintro ⟨u, _, hu'⟩
      obtain ⟨j, y, e1, e2, e3⟩ := of_decide_eq_true hu'
      exact ⟨y, List.mem_of_getElem? e2, e3⟩
    · rintro ⟨y, hy, e3⟩
      obtain ⟨j, e2⟩ := List.mem_iff_getElem?.mp hy
      have hj := (List.getElem?_eq_some_iff.mp e2).1
      have hj' : j < us.length := by rw [← q.length, ← r.length]; exact hj
      exact ⟨us[j], List.getElem_mem hj', decide_eq_true ⟨j, y, List.getElem?_eq_getElem hj', e2, e3⟩⟩
theorem dec_any {p : Prop} (i j : Decidable p) : @decide p i = @decide p j := by
  cases i <;> cases j <;> first | rfl | contradiction
theorem bl_eq {Q : VK} {H : Hp} {i j : Bool} (e : i = j) (q : Q (.bl i) H) : Q (.bl j) H := e ▸ q
/-- two values' comparison -/
def rCmp (C : Cn) (g : W → W → ST → Option Bool) : R2 := fun x y H Q => ∃ ρ s a b k, SR C ρ H s ∧ Rep C ρ H a x ∧ Rep C ρ H b y ∧ g a b s = some k ∧ Q (.bl k) H
theorem op_mem (hX : X.K = C.K) (hu : X.A.units + 64 < cLine) {s : ST} {ρ : List Addr} {H : Hp} {pins : List (Addr × Obj)} {σ : St} {st : Shared} (I : L2.Inv X pins σ H st) (S : SR C ρ H s) {a b : W} {x y : V} {v u : Value} (ra : Rep C ρ H a x) (rb : Rep C ρ H b y) (rx : RelV x v) (ry : RelV y u)
    {ys : List W} (h1 : seqI s b = some ys) (h2 : memOk a ys = true) {Q : VK} :
    (Q (.bl (ys.any fun y => weq y a)) H → wpAny (model X.prog X.w) X.A (compareOp .In v u) (EP X pins σ Q) X.xe st) ∧ (Q (.bl (!ys.any fun y => weq y a)) H → wpAny (model X.prog X.w) X.A (compareOp .NotIn v u) (EP X pins σ Q) X.xe st) := by
  obtain ⟨p, vs, rfl, hs, r⟩ := seqI_rep S rb h1
  cases ry
  have hu' : X.A.in1.units + 63 < cLine := by show X.A.units + 1 + 63 < cLine; omega
  rw [← hX] at hs
  rcases hs with hs | hs
  · obtain ⟨its, q, pl, _⟩ := I.list hs
    obtain ⟨e, e1, e2⟩ := vw_any hX I hu' ra.vw rx r q h2
    rw [← e2]
    have e3 : its.toArray.any e = its.any e := by simp
    exact ⟨fun k => SeqAt.in_listAt e pl.isList (fun w hw => e1 w (by simpa using hw)) ⟨.bl _, H, I, rfl, by rw [e3]; exact k⟩, fun k => SeqAt.notIn_listAt e pl.isList (fun w hw => e1 w (by simpa using hw)) ⟨.bl _, H, I, rfl, by rw [e3]; exact k⟩⟩
  · obtain ⟨its, q, pl, _⟩ := I.tuple hs
    obtain ⟨e, e1, e2⟩ := vw_any hX I hu' ra.vw rx r q h2
    rw [← e2]
    have e3 : its.toArray.any e = its.any e := by simp
    exact ⟨fun k => SeqAt.in_tupleAt e pl (fun w hw => e1 w (by simpa using hw)) ⟨.bl _, H, I, rfl, by rw [e3]; exact k⟩, fun k => SeqAt.notIn_tupleAt e pl (fun w hw => e1 w (by simpa using hw)) ⟨.bl _, H, I, rfl, by rw [e3]; exact k⟩⟩
theorem op_cmp (hX : X.K = C.K) (hu : X.A.units + 64 < cLine) (op : Cop) : OpR X (compareOp (copO op)) (rCmp C (cmpop op)) := by
  intro pins σt σ H x y v u Q I rx ry h
  obtain ⟨ρ, s, a, b, k, S, ra, rb, e, q⟩ := h
  have eqs : ∀ k', wEq s a b = some k' → (Q (.bl k') H → wpAny (model X.prog X.w) X.A (compareOp .Eq v u) (EP X pins σ Q) X.xe σt) ∧ (Q (.bl (!k')) H → wpAny (model X.prog X.w) X.A (compareOp .NotEq v u) (EP X pins σ Q) X.xe σt) := fun k' e => by
    unfold wEq at e
    split at e
    · rename_i a' b' h1 h2
      split at e
      · rename_i ho
        cases e
        obtain ⟨_, k1, k2⟩ := eq_at hX I 64 X.A hu a' b' x y v u (deref_vw S ra h1) (deref_vw S rb h2) rx ry ho
        exact ⟨fun q => k1 _ _ _ _ ⟨.bl _, H, I, rfl, q⟩, fun q => k2 _ _ _ _ ⟨.bl _, H, I, rfl, q⟩⟩
      · cases e
    · cases e
  cases op
  · exact (eqs k e).1 q
  · simp only [cmpop, Option.map_eq_some_iff] at e
    obtain ⟨k', e1, rfl⟩ := e
    exact (eqs k' e1).2 q
  · simp only [cmpop] at e
    split at e
    · cases e
      rw [ra.int] at rx; rw [rb.int] at ry
      exact op_lt pins σt σ H _ _ v u Q I rx ry ⟨_, _, rfl, rfl, q⟩
    · cases e
      rw [ra.str.1] at rx; rw [rb.str.1] at ry
      exact op_lt_str pins σt σ H _ _ v u Q I rx ry ⟨_, _, rfl, rfl, bl_eq (by rw [slt_lt]; exact dec_any _ _) q⟩
    · cases e
  · simp only [cmpop] at e
    split at e
    · cases e
      rw [ra.int] at rx; rw [rb.int] at ry
      exact op_le pins σt σ H _ _ v u Q I rx ry ⟨_, _, rfl, rfl, q⟩
    · cases e
      rw [ra.str.1] at rx; rw [rb.str.1] at ry
      exact op_le_str pins σt σ H _ _ v u Q I rx ry ⟨_, _, rfl, rfl, bl_eq (by rw [slt_lt]; exact congrArg (!·) (dec_any _ _)) q⟩
    · cases e
  · simp only [cmpop] at e
    split at e
    · cases e
      rw [ra.int] at rx; rw [rb.int] at ry
      exact op_gt pins σt σ H _ _ v u Q I rx ry ⟨_, _, rfl, rfl, q⟩
    · cases e
      rw [ra.str.1] at rx; rw [rb.str.1] at ry
      exact op_gt_str pins σt σ H _ _ v u Q I rx ry ⟨_, _, rfl, rfl, bl_eq (by rw [slt_lt]; exact dec_any _ _) q⟩
    · cases e
  · simp only [cmpop] at e
    split at e
    · cases e
      rw [ra.int] at rx; rw [rb.int] at ry
      exact op_ge pins σt σ H _ _ v u Q I rx ry ⟨_, _, rfl, rfl, q⟩
    · cases e
      rw [ra.str.1] at rx; rw [rb.str.1] at ry
      exact op_ge_str pins σt σ H _ _ v u Q I rx ry ⟨_, _, rfl, rfl, bl_eq (by rw [slt_lt]; exact congrArg (!·) (dec_any _ _)) q⟩
    · cases e
  · simp only [cmpop] at e
    split at e
    · rw [rb.non] at ry
      refine op_isN pins σt σ H x _ v u Q I rx ry ⟨rfl, ?_⟩
      cases e
      cases a <;> simp only [Rep] at ra
      all_goals first
        | (subst ra; exact q)
        | (obtain ⟨ra, _⟩ := ra; subst ra; exact q)
        | (obtain ⟨p, vs, ra, _⟩ := ra; subst ra; exact q)
        | (obtain ⟨p, vs, o, ra, _⟩ := ra; subst ra; exact q)
        | (obtain ⟨p, ra, _⟩ := ra; subst ra; exact q)
        | (obtain ⟨p, _, ra⟩ := ra; subst ra; exact q)
    · split at e
      · cases e
        rw [ra.bl] at rx; rw [rb.bl] at ry
        exact op_isBl pins σt σ H _ _ v u Q I rx ry ⟨_, _, rfl, rfl, by rw [← Bool.beq_eq_decide_eq]; exact q⟩
      · cases e
    · cases e
  · simp only [cmpop] at e
    split at e
    · rw [rb.non] at ry
      refine op_notN pins σt σ H x _ v u Q I rx ry ⟨rfl, ?_⟩
      cases e
      cases a <;> simp only [Rep] at ra
      all_goals first
        | (subst ra; exact q)
        | (obtain ⟨ra, _⟩ := ra; subst ra; exact q)
        | (obtain ⟨p, vs, ra, _⟩ := ra; subst ra; exact q)
        | (obtain ⟨p, vs, o, ra, _⟩ := ra; subst ra; exact q)
        | (obtain ⟨p, ra, _⟩ := ra; subst ra; exact q)
        | (obtain ⟨p, _, ra⟩ := ra; subst ra; exact q)
    · split at e
      · cases e
        rw [ra.bl] at rx; rw [rb.bl] at ry
        exact op_notBl pins σt σ H _ _ v u Q I rx ry ⟨_, _, rfl, rfl, by rw [← Bool.beq_eq_decide_eq]; exact q⟩
      · cases e
    · cases e
  · simp only [cmpop] at e
    split at e
    · cases e
      rw [ra.str.1] at rx; rw [rb.str.1] at ry
      exact op_in_sign pins σt σ H _ _ v u Q I rx ry ⟨_, _, rfl, rfl, bl_eq (dec_any _ _) q⟩
    · cases e
      rw [ra.str.1] at rx; rw [rb.str.1] at ry
      exact op_in_str pins σt σ H _ _ v u Q I rx ry ⟨_, _, rfl, rfl, bl_eq (found_infix _ _).symm q⟩
    · split at e
      · rename_i ys h1
        split at e
        · rename_i h2
          cases e
          exact (op_mem hX hu I S ra rb rx ry h1 h2).1 q
        · cases e
      · cases e
  · simp only [cmpop] at e
    split at e
    · cases e
      rw [ra.str.1] at rx; rw [rb.str.1] at ry
      exact op_notIn_sign pins σt σ H _ _ v u Q I rx ry ⟨_, _, rfl, rfl, bl_eq (congrArg (!·) (dec_any _ _)) q⟩
    · cases e
      rw [ra.str.1] at rx; rw [rb.str.1] at ry
      exact op_notin_str pins σt σ H _ _ v u Q I rx ry ⟨_, _, rfl, rfl, bl_eq (congrArg (!·) (found_infix _ _).symm) q⟩
    · split at e
      · rename_i ys h1
        split at e
        · rename_i h2
          cases e
          exact (op_mem hX hu I S ra rb rx ry h1 h2).2 q
        · cases e
      · cases e
end
end G

set_option Elab.async false
set_option linter.all false
set_option autoImplicit false
set_option maxRecDepth 100000
set_option maxHeartbeats 4000000
/-! GM: max, min of data. -/
namespace GN
open PySem PySem.Spec PyProof.Rows L2 G PySem.W
section
variable {X : Cx} {C : Cn} {ρ : List Addr} {H : Hp}
mutual
theorem toD_inj : ∀ (a b : W) (d : PyData), toD a = some d → toD b = some d → a = b
  | .bl x, b, d, h1, h2 => by
    simp only [toD, Option.some.injEq] at h1; subst h1
    cases b <;> simp [toD] at h2
    simp [h2]
  | .int x, b, d, h1, h2 => by
    simp only [toD, Option.some.injEq] at h1; subst h1
    cases b <;> simp [toD] at h2
    simp [h2]
  | .str x, b, d, h1, h2 => by
    simp only [toD, Option.some.injEq] at h1; subst h1
    cases b <;> simp [toD] at h2
    simp [h2]
  | .tup xs, b, d, h1, h2 => by
    simp only [toD, Option.map_eq_some_iff] at h1
    obtain ⟨ds, e1, rfl⟩ := h1
    cases b <;> simp [toD] at h2
    rename_i ys
    rw [toDs_inj xs ys ds e1 h2]
  | .non, _, _, h, _ | .htup _, _, _, h, _ | .lst _, _, _, h, _ | .dct _ _, _, _, h, _ | .ref _, _, _, h, _ | .scr _, _, _, h, _ | .ty _, _, _, h, _ | .fn _, _, _, h, _ => by simp [toD] at h
theorem toDs_inj : ∀ (a b : List W) (ds : List PyData), toDs a = some ds → toDs b = some ds → a = b
  | [], b, ds, h1, h2 => by
    simp only [toDs, Option.some.injEq] at h1; subst h1
    cases b with
    | nil => rfl
    | cons y b =>
      simp only [toDs, Option.bind_eq_some_iff, Option.map_eq_some_iff] at h2
      obtain ⟨_, _, _, _, q⟩ := h2
      cases q
  | x :: a, b, ds, h1, h2 => by
    simp only [toDs, Option.bind_eq_some_iff, Option.map_eq_some_iff] at h1
    obtain ⟨d, e1, es, e2, rfl⟩ := h1
    cases b with
    | nil => simp [toDs] at h2
    | cons y b =>
      simp only [toDs, Option.bind_eq_some_iff, Option.map_eq_some_iff, List.cons.injEq] at h2
      obtain ⟨d', f1, es', f2, rfl, rfl⟩ := h2
      rw [toD_inj x y d' e1 f1, toDs_inj a b es' e2 f2]
end
mutual
theorem reads_of {pins : List (Addr × Obj)} {σ : L2.St} {s : Shared} (I : Inv X pins σ H s) (hX : X.K = C.K) : ∀ (w : W) (v : V) (u : Value) (d : PyData), Rep C ρ H w v → RelV v u → toD w = some d → ∃ as, Reads s.heap u d as
  | .bl x, v, u, d, r, q, h => by
    simp only [toD, Option.some.injEq] at h; subst h
    rw [r.bl] at q; cases q
    exact ⟨_, .bool x⟩
  | .int x, v, u, d, r, q, h => by
    simp only [toD, Option.some.injEq] at h; subst h
    rw [r.int] at q; obtain ⟨t, rfl⟩ := q
    exact ⟨_, .int x t⟩
  | .str x, v, u, d, r, q, h => by
    simp only [toD, Option.some.injEq] at h; subst h
    rw [r.str.1] at q; obtain ⟨t, rfl⟩ := q
    exact ⟨_, .str _ t⟩
  | .tup xs, v, u, d, r, q, h => by
    simp only [toD, Option.map_eq_some_iff] at h
    obtain ⟨ds, e1, rfl⟩ := h
    obtain ⟨p, vs, rfl, q1, r1⟩ := r.tup
    cases q
    obtain ⟨its, rv, ⟨o, e2, e3, n, e4⟩, _⟩ := I.tuple (hX ▸ q1.sq)
    obtain ⟨as, h2⟩ := readss_of I hX xs vs its ds r1 rv e1
    exact ⟨_, .tuple e2 e3 e4 (by simpa using h2)⟩
  | .non, _, _, _, _, _, h | .htup _, _, _, _, _, _, h | .lst _, _, _, _, _, _, h | .dct _ _, _, _, _, _, _, h | .ref _, _, _, _, _, _, h | .scr _, _, _, _, _, _, h | .ty _, _, _, _, _, _, h | .fn _, _, _, _, _, _, h => by simp [toD] at h
theorem readss_of {pins : List (Addr × Obj)} {σ : L2.St} {s : Shared} (I : Inv X pins σ H s) (hX : X.K = C.K) : ∀ (ws : List W) (vs : List V) (us : List Value) (ds : List PyData), Reps C ρ H ws vs → Vals vs us → toDs ws = some ds → ∃ as, ReadsAll s.heap us ds as
  | [], vs, us, ds, r, q, h => by
    simp only [toDs, Option.some.injEq] at h; subst h
    have := r.nil'; subst this
    cases q
    exact ⟨_, .nil⟩
  | x :: a, vs, us, ds, r, q, h => by
    simp only [toDs, Option.bind_eq_some_iff, Option.map_eq_some_iff] at h
    obtain ⟨d, e1, es, e2, rfl⟩ := h
    obtain ⟨v, vs', rfl, r1, r2⟩ := r.cons'
    cases q with
    | cons q1 q2 =>
      obtain ⟨as, h1⟩ := reads_of I hX x v _ d r1 q1 e1
      obtain ⟨bs, h2⟩ := readss_of I hX a vs' _ es r2 q2 e2
      exact ⟨_, .cons h1 h2⟩
end
theorem toDs_get : ∀ {ws : List W} {ds : List PyData} {i : Nat} {w : W}, toDs ws = some ds → ws[i]? = some w → ∃ d, ds[i]? = some d ∧ toD w = some d
  | [], _, _, _, _, e => by simp at e
  | x :: a, ds, i, w, h, e => by
    simp only [toDs, Option.bind_eq_some_iff, Option.map_eq_some_iff] at h
    obtain ⟨d, e1, es, e2, rfl⟩ := h
    cases i with
    | zero =>
      simp only [List.getElem?_cons_zero, Option.some.injEq] at e; subst e
      exact ⟨d, rfl, e1⟩
    | succ i =>
      obtain ⟨d2, f1, f2⟩ := toDs_get (i := i) e2 (by simpa using e)
      exact ⟨d2, by simpa using f1, f2⟩
theorem best_is (up : Bool) : ∀ (r : List W) (ds : List PyData) (x : W) (d : PyData), toD x = some d → toDs r = some ds → toD (bestW up x r) = some (ds.foldl (fun a y => if (if up then dataLt a y else dataLt y a) then y else a) d)
  | [], ds, x, d, h1, h2 => by
    simp only [toDs, Option.some.injEq] at h2; subst h2
    simpa [bestW] using h1
  | y :: r, ds, x, d, h1, h2 => by
    simp only [toDs, Option.bind_eq_some_iff, Option.map_eq_some_iff] at h2
    obtain ⟨e, e1, es, e2, rfl⟩ := h2
    simp only [bestW, List.foldl_cons, h1, e1]
    have := best_is up r es (if (if up then dataLt d e else dataLt e d) then y else x) (if (if up then dataLt d e else dataLt e d) then e else d) (by cases (if up then dataLt d e else dataLt e d) <;> simp [h1, e1]) e2
    simpa only [bestW] using this
/-- max (up) or min of data -/
theorem best_ok {b : Bool} {pins : List (Addr × Obj)} {σ : L2.St} {s : Shared} {st : ST} {Q : VK} {w a : W} {v : V} {u : Value} (hX : X.K = C.K) (hc : X.calm = true) (hu : X.A.units + 64 < cLine) (I : Inv X pins σ H s) (S : SR C ρ H st) (r : Rep C ρ H a v) (ru : RelV v u) (e : bDat st b [a] = some w) (k : OkP C ρ H st w Q) :
    wpAny (model X.prog X.w) X.A (call (.builtin (if b then "max" else "min")) [u]) (EP X pins σ Q) X.xe s := by
  unfold bDat at e
  simp only [Option.bind_eq_some_iff] at e
  obtain ⟨xs, e1, e2⟩ := e
  split at e2
  · cases e2
  rename_i x rest
  obtain ⟨ds, e3, e4⟩ := Option.bind_eq_some_iff.mp e2
  split at e4
  · rename_i hok
    cases e4
    obtain ⟨p, vs, rfl, hp, rr⟩ := seqL_rep S r e1
    cases ru
    obtain ⟨its, rv, pl, _⟩ := I.list (SqL.of hp)
    obtain ⟨as, hr⟩ := readss_of I hX _ vs its ds rr rv e3
    simp only [toDs, Option.bind_eq_some_iff, Option.map_eq_some_iff] at e3
    obtain ⟨d, f1, es, f2, rfl⟩ := e3
    have al : AlikeAll (d :: es) := by
      refine ⟨fun p hp q hq => ?_, fun p hp => ?_⟩
      · have h1 := List.all_eq_true.mp hok.1 p hp
        exact List.all_eq_true.mp h1 q hq
      · have e9 : toDs (x :: rest) = some (d :: es) := by simp [toDs, f1, f2]
        intro q; subst q
        obtain ⟨i, hi⟩ := List.mem_iff_getElem?.mp hp
        have lt : i < (x :: rest).length := by
          have := (List.getElem?_eq_some_iff.mp hi).1
          have l1 := rr.length
          have l2 := rv.length
          have l3 : its.toArray.size = es.length + 1 := readsAll_len (by simpa using hr)
          simp at l3 this ⊢
          simp at l1
          omega
        obtain ⟨d2, g1, g2⟩ := toDs_get e9 (List.getElem?_eq_getElem lt)
        rw [hi] at g1; cases g1
        generalize (x :: rest)[i] = y at g2
        cases y <;> simp [toD] at g2
    have hd : X.A.units + 1 + PyData.depthAll (d :: es) < cLine := by have := hok.2; omega
    have fin : ∀ (i : Nat) (v : Value) (h2 : Heap) (tk : Nat) (bs : List Addr), its.toArray[i]? = some v → Reads h2 v (es.foldl (fun a y => if (if b then dataLt a y else dataLt y a) then y else a) d) bs → (∀ c o, s.heap.get? c = some o → h2.get? c = some o) → EP X pins σ Q v { s with heap := h2, toks := tk } := fun i v h2 tk bs hv hR keep => by
      have hv' : its[i]? = some v := by simpa using hv
      have lt := (List.getElem?_eq_some_iff.mp hv').1
      have lt2 : i < vs.length := by rw [rv.length]; exact lt
      have lt3 : i < (x :: rest).length := by rw [rr.length]; exact lt2
      obtain ⟨v1, g1, g2⟩ := rr.get (List.getElem?_eq_getElem lt3)
      obtain ⟨u1, g3, g4⟩ := rv.get g1
      rw [hv'] at g3; cases g3
      obtain ⟨d2, g5, g6⟩ := toDs_get (show toDs (x :: rest) = some (d :: es) by simp [toDs, f1, f2]) (List.getElem?_eq_getElem lt3)
      obtain ⟨bs2, g7⟩ := reads_of I hX _ _ _ _ g2 g4 g6
      have g8 := (Reads.unique (reads_keeps keep g7) _ _ hR).1
      have g9 := best_is b rest es x d f1 f2
      rw [← g8] at g9
      have := toD_inj _ _ _ g9 g6
      refine ⟨v1, H, I.kept (t' := tk) keep, g4, ?_⟩
      rw [this] at k
      exact k.here S g2
    cases b with
    | true => exact max_list_data (I.ok.hd hc) pl.isList (by simpa using hr) al hd fun i v h2 tk bs hv hR keep => fin i v h2 tk bs hv (by simpa [maxD] using hR) keep
    | false => exact min_list_data (I.ok.hd hc) pl.isList (by simpa using hr) al hd fun i v h2 tk bs hv hR keep => fin i v h2 tk bs hv (by simpa [minD] using hR) keep
  · cases e4
end
end GN

set_option Elab.async false
set_option linter.all false
set_option autoImplicit false
set_option maxRecDepth 100000
set_option maxHeartbeats 2000000
/-! G5: items, slices, built-ins. -/
namespace G
open PySem PySem.Spec PyProof.Rows L2
section
variable {X : Cx} {C : Cn}
theorem Reps.ints {ρ : List Addr} {H : Hp} : ∀ {ws : List W} {vs : List V} {ns : List Int}, Reps C ρ H ws vs → intsW ws = some ns → vs = ns.map V.int
  | [], vs, ns, r, e => by
    simp only [intsW, Option.some.injEq] at e; subst e
    exact r.nil'
  | w :: ws, vs, ns, r, e => by
    obtain ⟨v, us, rfl, r1, r2⟩ := r.cons'
    cases w <;> simp only [intsW, Option.map_eq_some_iff, reduceCtorEq] at e
    obtain ⟨ms, e1, rfl⟩ := e
    rw [Reps.ints r2 e1, r1.int]; rfl
theorem Reps.bools {ρ : List Addr} {H : Hp} : ∀ {ws : List W} {vs : List V} {ns : List Bool}, Reps C ρ H ws vs → boolsW ws = some ns → vs = ns.map V.bl
  | [], vs, ns, r, e => by
    simp only [boolsW, Option.some.injEq] at e; subst e
    exact r.nil'
  | w :: ws, vs, ns, r, e => by
    obtain ⟨v, us, rfl, r1, r2⟩ := r.cons'
    cases w <;> simp only [boolsW, Option.map_eq_some_iff, reduceCtorEq] at e
    obtain ⟨ms, e1, rfl⟩ := e
    rw [Reps.bools r2 e1, r1.bl]; rfl
theorem Reps.strs {ρ : List Addr} {H : Hp} : ∀ {ws : List W} {vs : List V} {ns : List (List Nat)}, Reps C ρ H ws vs → strsW ws = some ns → vs = (ns.map strOf).map V.str ∧ ∀ l ∈ ns, okS l
  | [], vs, ns, r, e => by
    simp only [strsW, Option.some.injEq] at e; subst e
    exact ⟨r.nil', fun _ h => nomatch h⟩
  | w :: ws, vs, ns, r, e => by
    obtain ⟨v, us, rfl, r1, r2⟩ := r.cons'
    cases w <;> simp only [strsW, Option.map_eq_some_iff, reduceCtorEq] at e
    obtain ⟨ms, e1, rfl⟩ := e
    obtain ⟨h1, h2⟩ := Reps.strs r2 e1
    rw [h1, r1.str.1]
    refine ⟨rfl, fun l hl => ?_⟩
    rcases List.mem_cons.mp hl with rfl | hl
    · exact r1.str.2
    · exact h2 l hl
theorem fold_max : ∀ (xs : List Int) (x : Int), (xs.foldl (fun a b => if a < b then b else a) x) ∈ x :: xs ∧ ∀ y ∈ x :: xs, y ≤ xs.foldl (fun a b => if a < b then b else a) x
  | [], x => by simp
  | z :: xs, x => by
    have ih := fold_max xs (if x < z then z else x)
    rw [List.foldl_cons]
    refine ⟨?_, fun y hy => ?_⟩
    · rcases List.mem_cons.mp ih.1 with h | h
      · rw [h]; split <;> simp
      · simp [h]
    · have h0 := ih.2 _ List.mem_cons_self
      rcases List.mem_cons.mp hy with rfl | hy
      · (revert h0; generalize List.foldl (fun a b : Int => if a < b then b else a) _ xs = m; intro h0; split at h0 <;> omega)
      · rcases List.mem_cons.mp hy with rfl | hy
        · (revert h0; generalize List.foldl (fun a b : Int => if a < b then b else a) _ xs = m; intro h0; split at h0 <;> omega)
        · exact ih.2 y (List.mem_cons_of_mem _ hy)
theorem fold_min : ∀ (xs : List Int) (x : Int), (xs.foldl (fun a b => if b < a then b else a) x) ∈ x :: xs ∧ ∀ y ∈ x :: xs, xs.foldl (fun a b => if b < a then b else a) x ≤ y
  | [], x => by simp
  | z :: xs, x => by
    have ih := fold_min xs (if z < x then z else x)
    rw [List.foldl_cons]
    refine ⟨?_, fun y hy => ?_⟩
    · rcases List.mem_cons.mp ih.1 with h | h
      · rw [h]; split <;> simp
      · simp [h]
    · have h0 := ih.2 _ List.mem_cons_self
      rcases List.mem_cons.mp hy with rfl | hy
      · (revert h0; generalize List.foldl (fun a b : Int => if b < a then b else a) _ xs = m; intro h0; split at h0 <;> omega)
      · rcases List.mem_cons.mp hy with rfl | hy
        · (revert h0; generalize List.foldl (fun a b : Int => if b < a then b else a) _ xs = m; intro h0; split at h0 <;> omega)
        · exact ih.2 y (List.mem_cons_of_mem _ hy)
/-- a built-in's call by values -/
def rBi (C : Cn) (b : Bi) : List V → Hp → VK → Prop := fun vs H Q => ∃ ρ s ws w, SR C ρ H s ∧ Reps C ρ H ws vs ∧ biop b ws s = some w ∧ OkP C ρ H s w Q
theorem rep1 {ρ : List Addr} {H : Hp} {a : W} {vs : List V} (r : Reps C ρ H [a] vs) : ∃ v, vs = [v] ∧ Rep C ρ H a v := by
  obtain ⟨v, us, rfl, r1, r2⟩ := r.cons'
  have := r2.nil'; subst this
  exact ⟨v, rfl, r1⟩
theorem cb_len (hX : X.K = C.K) : CallR X (.builtin "len") (rBi C .len) := by
  intro pins st σ H xs us Q I r h
  obtain ⟨ρ, s, ws, w, S, rs, e, k⟩ := h
  simp only [biop] at e
  unfold bLen at e
  split at e <;> (try (cases e; done))
  · split at e
    · rename_i hl
      cases e
      obtain ⟨v, rfl, r1⟩ := rep1 rs
      rw [r1.str.1] at r
      refine call_len pins st σ H _ _ Q I r ⟨_, _, rfl, ⟨by rw [strOf_len, ← line_eq]; exact hl, rfl⟩, ?_⟩
      rw [strOf_len]
      exact k.here S Rep.mkI
    · cases e
  · simp only [Option.map_eq_some_iff] at e
    obtain ⟨ys, e1, rfl⟩ := e
    obtain ⟨v, rfl, r1⟩ := rep1 rs
    obtain ⟨p, vs, rfl, hs, r2⟩ := seqI_rep S r1 e1
    refine call_len_seq pins st σ H _ _ Q I r ⟨p, vs, rfl, hX ▸ hs, ?_⟩
    rw [← r2.length]
    exact k.here S Rep.mkI
theorem cb_abs : CallR X (.builtin "abs") (rBi C .abs) := by
  intro pins st σ H xs us Q I r h
  obtain ⟨ρ, s, ws, w, S, rs, e, k⟩ := h
  simp only [biop] at e
  unfold bAbs at e
  split at e
  · cases e
    obtain ⟨v, rfl, r1⟩ := rep1 rs
    rw [r1.int] at r
    exact call_abs pins st σ H _ _ Q I r ⟨_, rfl, k.here S Rep.mkI⟩
  · cases e
theorem cb_int : CallR X (.type "int") (rBi C .int) := by
  intro pins st σ H xs us Q I r h
  obtain ⟨ρ, s, ws, w, S, rs, e, k⟩ := h
  simp only [biop] at e
  unfold bInt at e
  split at e <;> (try (cases e; done))
  · cases e
    obtain ⟨v, rfl, r1⟩ := rep1 rs
    rw [r1.int] at r
    exact call_int1 pins st σ H _ _ Q I r (.inl ⟨_, rfl, k.here S Rep.mkI⟩)
  · cases e
    obtain ⟨v, rfl, r1⟩ := rep1 rs
    rw [r1.bl] at r
    exact call_int1 pins st σ H _ _ Q I r (.inr ⟨_, rfl, k.here S Rep.mkI⟩)
  · split at e
    · rename_i hc
      cases e
      obtain ⟨v, rfl, r1⟩ := rep1 rs
      rw [r1.str.1] at r
      obtain ⟨h1, h2⟩ := int_text hc.1 hc.2.1 hc.2.2
      exact call_int_str pins st σ H _ _ Q I r ⟨_, _, rfl, h1, h2, k.here S Rep.mkI⟩
    · cases e
theorem reps_ints {ρ : List Addr} {H : Hp} : ∀ ns : List Int, Reps C ρ H (ns.map .int) (ns.map V.int)
  | [] => by simp only [List.map_nil, Reps]
  | n :: ns => by
    simp only [List.map_cons]
    exact Reps.mk Rep.mkI (reps_ints ns)
/-- what list(x) takes -/
theorem list_of {ρ : List Addr} {H : Hp} {s : ST} {a w : W} {v : V} (S : SR C ρ H s) (r : Rep C ρ H a v) (e : biop .list [a] s = some w) : ∃ ws p vs, w = .lst ws ∧ v = .ref p ∧ (SqL C.K H p vs ∨ SqT C.K H p vs) ∧ Reps C ρ H ws vs := by
  cases a with
  | scr ns =>
    simp only [biop, bList, Option.some.injEq] at e; subst e
    simp only [Rep] at r
    obtain ⟨p, rfl, ⟨_, rd⟩ | rd⟩ := r
    · exact ⟨_, p, _, rfl, rfl, .inl (.inl rd), reps_ints _⟩
    · exact ⟨_, p, _, rfl, rfl, .inl (.inr rd), reps_ints _⟩
  | _ =>
    simp only [biop, bList, Option.map_eq_some_iff] at e
    obtain ⟨ys, e1, rfl⟩ := e
    obtain ⟨p, vs, rfl, hs, r2⟩ := seqI_rep S r e1
    exact ⟨_, p, _, rfl, rfl, hs, r2⟩
theorem biop_list1 {s : ST} {ws : List W} {w : W} (e : biop .list ws s = some w) : ∃ a, ws = [a] := by
  simp only [biop] at e
  unfold bList at e
  split at e <;> (try (cases e; done)) <;> exact ⟨_, rfl⟩
theorem cb_list (hX : X.K = C.K) : CallR X (.type "list") (rBi C .list) := by
  intro pins st σ H xs us Q I r h
  obtain ⟨ρ, s, ws, w, S, rs, e, k⟩ := h
  obtain ⟨a, rfl⟩ := biop_list1 e
  obtain ⟨v, rfl, r1⟩ := rep1 rs
  obtain ⟨ws, p, vs, rfl, rfl, hs, r2⟩ := list_of S r1 e
  exact call_list_of pins st σ H _ _ Q I r ⟨p, vs, rfl, hX ▸ hs, k.lst S r2⟩
theorem cb_tuple (hX : X.K = C.K) : CallR X (.type "tuple") (rBi C .tuple) := by
  intro pins st σ H xs us Q I r h
  obtain ⟨ρ, s, ws, w, S, rs, e, k⟩ := h
  simp only [biop] at e
  unfold bTuple at e
  split at e <;> (try (cases e; done))
  · rename_i zs
    cases e
    obtain ⟨v, rfl, r1⟩ := rep1 rs
    have r1' := r1
    obtain ⟨p, vs, rfl, q, r2⟩ := (Rep.soft (.htup zs) _ r1).tup
    exact call_tuple_of pins st σ H _ _ Q I r ⟨p, vs, rfl, .inr ⟨hX ▸ q.sq, k.here S r1'⟩⟩
  rename_i a hna
  simp only [Option.map_eq_some_iff] at e
  obtain ⟨ys, e1, rfl⟩ := e
  obtain ⟨v, rfl, r1⟩ := rep1 rs
  cases a with
  | tup zs =>
    simp only [seqI, Option.some.injEq] at e1; subst e1
    have r1' := r1
    obtain ⟨p, vs, rfl, q, r2⟩ := r1.tup
    exact call_tuple_of pins st σ H _ _ Q I r ⟨p, vs, rfl, .inr ⟨hX ▸ q.sq, k.here S r1'⟩⟩
  | lst zs =>
    obtain ⟨p, vs, rfl, hs, r2⟩ := seqL_rep (xs := ys) S r1 e1
    exact call_tuple_of pins st σ H _ _ Q I r ⟨p, vs, rfl, .inl ⟨SqL.of hs, k.tup S r2⟩⟩
  | ref n =>
    obtain ⟨p, vs, rfl, hs, r2⟩ := seqL_rep (xs := ys) S r1 e1
    exact call_tuple_of pins st σ H _ _ Q I r ⟨p, vs, rfl, .inl ⟨SqL.of hs, k.tup S r2⟩⟩
  | htup zs => exact (hna zs rfl).elim
  | _ => simp [seqI] at e1
theorem cb_htuple : CallR X (.type "tuple") (rBi C .htuple) := by
  intro pins st σ H xs us Q I r h
  obtain ⟨ρ, s, ws, w, S, rs, e, k⟩ := h
  simp only [biop] at e
  unfold bHtuple at e
  split at e <;> (try (cases e; done))
  rename_i a
  simp only [Option.map_eq_some_iff] at e
  obtain ⟨ys, e1, rfl⟩ := e
  obtain ⟨v, rfl, r1⟩ := rep1 rs
  obtain ⟨p, vs, rfl, hs, r2⟩ := seqL_rep S r1 e1
  exact GN.call_htuple pins st σ H _ _ Q I r ⟨p, vs, rfl, SqL.of hs, k.htup S r2⟩
theorem digits_of (i : Int) : (toString i : Str) = strOf (intStr i) := GN.int_text i
theorem okS_int (i : Int) : okS (intStr i) := GN.int_small i
theorem cb_str : CallR X (.type "str") (rBi C .str) := by
  intro pins st σ H xs us Q I r h
  obtain ⟨ρ, s, ws, w, S, rs, e, k⟩ := h
  simp only [biop] at e
  unfold bStr at e
  split at e <;> (try (cases e; done))
  · split at e
    · rename_i i hb
      cases e
      obtain ⟨v, rfl, r1⟩ := rep1 rs
      rw [r1.int] at r
      refine call_str_int pins st σ H _ _ Q I r ⟨_, rfl, ?_, ?_⟩
      · have : i.natAbs < 2 ^ 64 := by
          have e : big = 2 ^ 64 := rfl
          omega
        by_cases h0 : i.natAbs = 0
        · rw [h0]; decide
        · exact Nat.lt_of_lt_of_le ((Nat.log2_lt h0).mpr this) (by decide)
      · rw [digits_of]
        exact k.here S (Rep.mkS (okS_int i))
    · cases e
  · rename_i l
    cases e
    obtain ⟨v, rfl, r1⟩ := rep1 rs
    rw [r1.str.1] at r
    exact SkE.call_str_str pins st σ H _ _ Q I r ⟨_, rfl, k.here S (Rep.mkS r1.str.2)⟩
theorem cb_sorted : CallR X (.builtin "sorted") (rBi C .sorted) := by
  intro pins st σ H xs us Q I r h
  obtain ⟨ρ, s, ws, w, S, rs, e, k⟩ := h
  simp only [biop] at e
  unfold bSorted at e
  split at e <;> (try (cases e; done))
  simp only [Option.bind_eq_some_iff] at e
  obtain ⟨ys, e1, ns, e2, e3⟩ := e
  split at e3
  · rename_i few
    cases e3
    obtain ⟨v, rfl, r1⟩ := rep1 rs
    obtain ⟨p, vs, rfl, hs, r2⟩ := seqL_rep S r1 e1
    obtain ⟨h1, h2⟩ := r2.strs e2
    subst h1
    refine cr_sortedS pins st σ H _ _ Q I r ⟨p, ns.map strOf, rfl, SqL.of hs, by rw [List.length_map]; exact few, fun ys2 q pm so hn => ?_⟩
    have e4 := GN.sorted_is pm so
    subst e4
    have r3 : Reps C ρ H ((ssort ns).map .str) (((ssort ns).map strOf).map V.str) := GN.reps_texts _ fun l hl => h2 l ((GN.ssort_perm ns).mem_iff.mp hl)
    exact k.lst S r3 q hn
  · cases e3
theorem cb_dict (hX : X.K = C.K) (hc : X.calm = true) : CallR X (.type "dict") (rBi C .dict) := by
  intro pins st σ H xs us Q I r h
  obtain ⟨ρ, s, ws, w, S, rs, e, k⟩ := h
  simp only [biop] at e
  have fin : ∀ (ys : List W) (vs : List V) (ps : List (List Nat × W)), Reps C ρ H ys vs → pairsOf ys = some ps → ∃ (as : List Addr) (kvs : List (Key × V)), vs = as.map V.ref ∧ Paired (fun p kv => SqT X.K H p [kV kv.1, kv.2]) as kvs ∧ ∀ p, H p = none → Rep C ρ (upd H p (.dK (mergeK [] kvs))) (dctOf ps) (.ref p) := fun ys vs ps r2 e2 => by
    obtain ⟨as, kvs, e3, e4, e5⟩ := GN.pairs_rep hX r2 e2
    exact ⟨as, kvs, e3, e4, fun p hn => GN.dict_rep S hn e5⟩
  unfold bDict at e
  split at e <;> (try (cases e; done))
  · rename_i ys
    obtain ⟨ps, e2, rfl⟩ := Option.map_eq_some_iff.mp e
    obtain ⟨v, rfl, r1⟩ := rep1 rs
    simp only [Rep] at r1
    obtain ⟨p, vs, o, rfl, _, hp, hd, r2⟩ := r1
    obtain ⟨as, kvs, rfl, e4, e5⟩ := fin ys vs ps r2 e2
    refine GN.call_dictH hc pins st σ H _ _ Q I r ⟨p, as, kvs, o, rfl, hp, hd, e4, fun q hn => ?_⟩
    exact k ρ _ _ (Gr.new hn) (S.new hn) (e5 q hn)
  · obtain ⟨ys, e1, e9⟩ := Option.bind_eq_some_iff.mp e
    obtain ⟨ps, e2, rfl⟩ := Option.map_eq_some_iff.mp e9
    obtain ⟨v, rfl, r1⟩ := rep1 rs
    obtain ⟨p, vs, rfl, hs, r2⟩ := seqL_rep S r1 e1
    obtain ⟨as, kvs, rfl, e4, e5⟩ := fin ys vs ps r2 e2
    refine call_dictP hc pins st σ H _ _ Q I r ⟨p, as, kvs, rfl, SqL.of hs, e4, fun q hn => ?_⟩
    exact k ρ _ _ (Gr.new hn) (S.new hn) (e5 q hn)
theorem cb_max_ints (hc : X.calm = true) : CallR X (.builtin "max") (fun vs H Q => ∃ ρ s ws w, SR C ρ H s ∧ Reps C ρ H ws vs ∧ bInts s lmax ws = some w ∧ OkP C ρ H s w Q) := by
  intro pins st σ H xs us Q I r h
  obtain ⟨ρ, s, ws, w, S, rs, e, k⟩ := h
  unfold bInts at e
  split at e <;> (try (cases e; done))
  simp only [Option.bind_eq_some_iff, Option.map_eq_some_iff] at e
  obtain ⟨ys, e1, ns, e2, m, e3, rfl⟩ := e
  obtain ⟨v, rfl, r1⟩ := rep1 rs
  obtain ⟨p, vs, rfl, hs, r2⟩ := seqL_rep S r1 e1
  have := r2.ints e2; subst this
  cases ns with
  | nil => simp [lmax] at e3
  | cons n ns =>
    simp only [lmax, Option.some.injEq] at e3
    obtain ⟨f1, f2⟩ := fold_max ns n
    rw [e3] at f1 f2
    refine cr_max hc pins st σ H _ _ Q I r ⟨p, n :: ns, rfl, SqL.of hs, by simp, fun m' h1 h2 => ?_⟩
    have : m' = m := Int.le_antisymm (f2 m' h1) (h2 m f1)
    subst this
    exact k.here S Rep.mkI
theorem cb_max (hX : X.K = C.K) (hc : X.calm = true) (hu : X.A.units + 64 < cLine) : CallR X (.builtin "max") (rBi C .max) := by
  intro pins st σ H xs us Q I r h
  obtain ⟨ρ, s, ws, w, S, rs, e, k⟩ := h
  simp only [biop] at e
  unfold bTwo at e
  split at e
  · rename_i i j
    cases e
    obtain ⟨v, us', rfl, r1, r2⟩ := rs.cons'
    obtain ⟨u, rfl, r3⟩ := rep1 r2
    rw [r1.int, r3.int] at r
    exact call_max2 hc pins st σ H _ _ Q I r ⟨i, j, rfl, k.here S Rep.mkI⟩
  split at e
  · rename_i w' ew
    cases e
    exact cb_max_ints hc pins st σ H _ _ Q I r ⟨ρ, s, _, _, S, rs, ew, k⟩
  · have ew := e
    unfold bDat at ew
    split at ew <;> (try (cases ew; done))
    obtain ⟨v, rfl, r1⟩ := rep1 rs
    obtain ⟨u, rfl, ru⟩ := vals1 r
    exact GN.best_ok (b := true) hX hc hu I S r1 ru e k
theorem cb_min_ints (hc : X.calm = true) : CallR X (.builtin "min") (fun vs H Q => ∃ ρ s ws w, SR C ρ H s ∧ Reps C ρ H ws vs ∧ bInts s lmin ws = some w ∧ OkP C ρ H s w Q) := by
  intro pins st σ H xs us Q I r h
  obtain ⟨ρ, s, ws, w, S, rs, e, k⟩ := h
  unfold bInts at e
  split at e <;> (try (cases e; done))
  simp only [Option.bind_eq_some_iff, Option.map_eq_some_iff] at e
  obtain ⟨ys, e1, ns, e2, m, e3, rfl⟩ := e
  obtain ⟨v, rfl, r1⟩ := rep1 rs
  obtain ⟨p, vs, rfl, hs, r2⟩ := seqL_rep S r1 e1
  have := r2.ints e2; subst this
  cases ns with
  | nil => simp [lmin] at e3
  | cons n ns =>
    simp only [lmin, Option.some.injEq] at e3
    obtain ⟨f1, f2⟩ := fold_min ns n
    rw [e3] at f1 f2
    refine cr_min hc pins st σ H _ _ Q I r ⟨p, n :: ns, rfl, SqL.of hs, by simp, fun m' h1 h2 => ?_⟩
    have : m' = m := Int.le_antisymm (h2 m f1) (f2 m' h1)
    subst this
    exact k.here S Rep.mkI
theorem cb_min (hX : X.K = C.K) (hc : X.calm = true) (hu : X.A.units + 64 < cLine) : CallR X (.builtin "min") (rBi C .min) := by
  intro pins st σ H xs us Q I r h
  obtain ⟨ρ, s, ws, w, S, rs, e, k⟩ := h
  simp only [biop] at e
  unfold bTwo at e
  split at e
  · rename_i i j
    cases e
    obtain ⟨v, us', rfl, r1, r2⟩ := rs.cons'
    obtain ⟨u, rfl, r3⟩ := rep1 r2
    rw [r1.int, r3.int] at r
    exact call_min2 hc pins st σ H _ _ Q I r ⟨i, j, rfl, k.here S Rep.mkI⟩
  split at e
  · rename_i w' ew
    cases e
    exact cb_min_ints hc pins st σ H _ _ Q I r ⟨ρ, s, _, _, S, rs, ew, k⟩
  · have ew := e
    unfold bDat at ew
    split at ew <;> (try (cases ew; done))
    obtain ⟨v, rfl, r1⟩ := rep1 rs
    obtain ⟨u, rfl, ru⟩ := vals1 r
    exact GN.best_ok (b := false) hX hc hu I S r1 ru e k
theorem cb_sum (hc : X.calm = true) : CallR X (.builtin "sum") (rBi C .sum) := by
  intro pins st σ H xs us Q I r h
  obtain ⟨ρ, s, ws, w, S, rs, e, k⟩ := h
  simp only [biop] at e
  unfold bInts at e
  split at e <;> (try (cases e; done))
  simp only [Option.bind_eq_some_iff, Option.map_eq_some_iff] at e
  obtain ⟨ys, e1, ns, e2, m, e3, rfl⟩ := e
  cases e3
  obtain ⟨v, rfl, r1⟩ := rep1 rs
  obtain ⟨p, vs, rfl, hs, r2⟩ := seqL_rep S r1 e1
  have := r2.ints e2; subst this
  exact cr_sum hc pins st σ H _ _ Q I r ⟨p, ns, rfl, SqL.of hs, k.here S Rep.mkI⟩
theorem cb_all (hc : X.calm = true) : CallR X (.builtin "all") (rBi C .all) := by
  intro pins st σ H xs us Q I r h
  obtain ⟨ρ, s, ws, w, S, rs, e, k⟩ := h
  simp only [biop] at e
  unfold bBools at e
  split at e <;> (try (cases e; done))
  simp only [Option.bind_eq_some_iff, Option.map_eq_some_iff] at e
  obtain ⟨ys, e1, ns, e2, rfl⟩ := e
  obtain ⟨v, rfl, r1⟩ := rep1 rs
  obtain ⟨p, vs, rfl, hs, r2⟩ := seqL_rep S r1 e1
  have := r2.bools e2; subst this
  exact cr_all hc pins st σ H _ _ Q I r ⟨p, ns, rfl, SqL.of hs, k.here S Rep.mkB⟩
theorem cb_any (hc : X.calm = true) : CallR X (.builtin "any") (rBi C .any) := by
  intro pins st σ H xs us Q I r h
  obtain ⟨ρ, s, ws, w, S, rs, e, k⟩ := h
  simp only [biop] at e
  unfold bBools at e
  split at e <;> (try (cases e; done))
  simp only [Option.bind_eq_some_iff, Option.map_eq_some_iff] at e
  obtain ⟨ys, e1, ns, e2, rfl⟩ := e
  obtain ⟨v, rfl, r1⟩ := rep1 rs
  obtain ⟨p, vs, rfl, hs, r2⟩ := seqL_rep S r1 e1
  have := r2.bools e2; subst this
  exact cr_any hc pins st σ H _ _ Q I r ⟨p, ns, rfl, SqL.of hs, k.here S Rep.mkB⟩
/-- a value's type -/
def tyW : W → Option String
  | .non => some "NoneType" | .bl _ => some "bool" | .int _ => some "int" | .str _ => some "str" | .tup _ => some "tuple" | .htup _ => some "tuple" | .lst _ => some "list" | .ref _ => some "list" | _ => none
theorem tyW_X {ρ : List Addr} {H : Hp} {s : ST} {a : W} {v : V} {t : String} (hX : X.K = C.K) (S : SR C ρ H s) (r : Rep C ρ H a v) (e : tyW a = some t) : TyX X.K H v (.type t) := by
  cases a <;> simp only [tyW, Option.some.injEq, reduceCtorEq] at e <;> subst e <;> simp only [Rep] at r
  · subst r; exact .base .non
  · subst r; exact .base (.bl _)
  · subst r; exact .base (.int _)
  · obtain ⟨r, _⟩ := r; subst r; exact .base (.str _)
  · obtain ⟨p, vs, rfl, q, _⟩ := r
    rcases q with ⟨_, q | ⟨o, q⟩⟩ | ⟨o, its, n, q1, q2, _⟩
    · exact .base (.tup q)
    · exact .fTuple q
    · exact .kTuple (hX ▸ q1) q2
  · obtain ⟨p, vs, o, rfl, _, q, _⟩ := r; exact .fTuple q
  · obtain ⟨p, vs, rfl, _, q, _⟩ := r; exact .base (.lst q)
  · obtain ⟨p, e, rfl⟩ := r
    obtain ⟨vs, q⟩ := S.some (List.mem_of_getElem? e)
    exact .base (.lst q)
theorem isTy_kit {a : W} {t : String} {k : Bool} (e : isTy a t = some k) : ∃ u, tyW a = some u ∧ PySem.W.kitOne X.K (.type u) (.type t) = some k := by
  unfold isTy at e
  split at e
  all_goals first
    | (cases e; done)
    | (cases a <;> simp only [Option.some.injEq, reduceCtorEq] at e <;> subst e <;> exact ⟨_, rfl, kit_ty (by decide +kernel)⟩)
theorem cb_isi (hX : X.K = C.K) : CallR X (.builtin "isinstance") (rBi C .isi) := by
  intro pins st σ H xs us Q I r h
  obtain ⟨ρ, s, ws, w, S, rs, e, k⟩ := h
  simp only [biop] at e
  unfold bIsi at e
  split at e
  · rename_i a t

    obtain ⟨b, e1, rfl⟩ := Option.map_eq_some_iff.mp e
    obtain ⟨v, us', rfl, r1, r2⟩ := rs.cons'
    obtain ⟨v2, rfl, r3⟩ := rep1 r2
    unfold Rep at r3; subst r3
    obtain ⟨u, e2, e3⟩ := isTy_kit (X := X) e1
    exact call_isi pins st σ H _ _ Q I r ⟨v, _, _, _, b, rfl, .ty t, tyW_X hX S r1 e2, e3, k.here S Rep.mkB⟩
  · cases e
/-! items and slices -/
theorem okS_sub {l m : List Nat} (h : okS l) (s : ∀ c ∈ m, c ∈ l) : okS m := fun c hc => h c (s c hc)
theorem cut_eq (xs : List V) (lo hi : Option Int) : cutV xs lo hi = cut xs lo hi := rfl
theorem cut_str (l : List Nat) (lo hi : Option Int) : cutS (strOf l) lo hi = strOf (cut l lo hi) := by
  unfold cutS
  rw [strOf_len]
  rfl
theorem okS_cut {l : List Nat} (h : okS l) (lo hi : Option Int) : okS (cut l lo hi) := okS_sub h fun c hc => List.mem_of_mem_drop (List.mem_of_mem_take hc)
theorem Reps.cut {ρ : List Addr} {H : Hp} {ws : List W} {vs : List V} (r : Reps C ρ H ws vs) (lo hi : Option Int) : Reps C ρ H (cut ws lo hi) (cutV vs lo hi) := by
  rw [cut_eq]
  unfold G.cut
  rw [← r.length]
  exact (r.drop _).take _
/-- a slice by values -/
def rSl (C : Cn) : V → Option Int → Option Int → Hp → VK → Prop := fun x lo hi H Q => ∃ ρ s a w, SR C ρ H s ∧ Rep C ρ H a x ∧ slice a lo hi s = some w ∧ OkP C ρ H s w Q
theorem sl_all (hX : X.K = C.K) : SlR X (rSl C) := by
  intro pins st σ H x v vl vu lo hi sl Q I rx hs pl pu h
  obtain ⟨ρ, s, a, w, S, ra, e, k⟩ := h
  unfold slice at e
  split at e
  · split at e
    · rename_i hl
      cases e
      rw [ra.str.1] at rx
      refine sl_str pins st σ H _ v vl vu lo hi sl Q I rx hs pl pu ⟨_, rfl, by rw [strOf_len, ← line_eq]; exact hl, ?_⟩
      rw [cut_str]
      exact k.here S (Rep.mkS (okS_cut ra.str.2 _ _))
    · cases e
  · cases e
    have ra' := ra
    obtain ⟨p, vs, rfl, q, r⟩ := ra.tup
    refine sl_tupA pins st σ H _ v vl vu lo hi sl Q I rx hs pl pu ⟨p, vs, rfl, hX ▸ q.sq, fun hw => ?_, fun _ => k.tup S (r.cut lo hi)⟩
    refine k.here S ?_
    rename_i xs
    have : cut xs lo hi = xs := by
      unfold cut
      have h1 : cutIx xs.length 0 lo = 0 := by rw [r.length]; exact hw.1
      have h2 : cutIx xs.length xs.length hi = xs.length := by rw [r.length]; exact hw.2
      rw [h1, h2]; simp
    rw [this]; exact ra'
  · simp only [Option.map_eq_some_iff] at e
    obtain ⟨ys, e1, rfl⟩ := e
    obtain ⟨p, vs, rfl, q, r⟩ := seqL_rep S ra e1
    exact sl_list pins st σ H _ v vl vu lo hi sl Q I rx hs pl pu ⟨p, vs, rfl, SqL.of q, k.lst S (r.cut lo hi)⟩
theorem ix_eq (n : Nat) (i : Int) : ixN n i = ixOf i n := rfl
/-- an item by values, but of a dict -/
def rIt (C : Cn) : R2 := fun x y H Q => ∃ ρ s a b w, SR C ρ H s ∧ Rep C ρ H a x ∧ Rep C ρ H b y ∧ (∀ ks vs, a ≠ .dct ks vs) ∧ item a b s = some w ∧ OkP C ρ H s w Q
theorem it_all (hX : X.K = C.K) : IxR X (rIt C) := by
  intro value slc pins st σ H x y v u Q I rx ry h hs
  obtain ⟨ρ, s, a, b, w, S, ra, rb, nd, e, k⟩ := h
  have fin : ∀ (i : Int) (xs : List W), b = .int i → seqI s a = some xs → ((ixOf i xs.length).bind fun j => xs[j]?) = some w → wpAny (model X.prog X.w) X.A (subscriptTail value slc v u) (EP X pins σ Q) X.xe st := fun i xs eb e1 e2 => by
    subst eb
    simp only [Option.bind_eq_some_iff] at e2
    obtain ⟨j, e2, e3⟩ := e2
    rw [rb.int] at ry
    obtain ⟨p, vs, rfl, hq, r⟩ := seqI_rep S ra e1
    obtain ⟨z, e4, r2⟩ := r.get e3
    have e5 : atI vs i = some z := by
      unfold atI
      rw [ix_eq, ← r.length, e2]; exact e4
    rw [← hX] at hq
    rcases hq with hq | hq
    · exact ix_list value slc pins st σ H _ _ v u Q I rx ry ⟨p, vs, i, z, rfl, rfl, hq, e5, k.here S r2⟩ hs
    · exact ix_tup value slc pins st σ H _ _ v u Q I rx ry ⟨p, vs, i, z, rfl, rfl, hq, e5, k.here S r2⟩ hs
  unfold item at e
  split at e
  · rename_i l i
    split at e
    · rename_i hl
      simp only [Option.map_eq_some_iff, Option.bind_eq_some_iff] at e
      obtain ⟨c, ⟨j, e1, e2⟩, rfl⟩ := e
      rw [ra.str.1] at rx; rw [rb.int] at ry
      refine ix_str value slc pins st σ H _ _ v u Q I rx ry ⟨_, _, c, rfl, rfl, by rw [strOf_len, ← line_eq]; exact hl, ?_, k.here S (Rep.mkS (l := [c]) ?_)⟩ hs
      · show atI l i = some c
        unfold atI
        rw [ix_eq, e1]; exact e2
      · exact okS_sub ra.str.2 fun d hd => by
          have : d = c := by simpa using hd
          subst this
          exact List.mem_of_getElem? e2
    · cases e
  · exact (nd _ _ rfl).elim
  · simp only [Option.bind_eq_some_iff] at e
    obtain ⟨xs, e1, e2⟩ := e
    exact fin _ xs rfl e1 (by simpa only [Option.bind_eq_some_iff] using e2)
  · cases e
end
end G

set_option Elab.async false
set_option linter.all false
set_option autoImplicit false
set_option maxRecDepth 100000
set_option maxHeartbeats 2000000
/-! GT: defs that call a lambda and tell which error they met. -/
namespace G
open PySem PySem.Spec PyProof.Rows L2 LamX
/-- what is done with a clause: passed; its suite; its suite, the error's name in slot i -/
inductive Go where
  | past
  | suite (ts : Addr → Value → Option Addr → TS)
  | named (i : Nat) (ts : Addr → Value → Option Addr → TS)
/-- the ends of a suite behind which the name in slot i goes -/
def ungo (i : Nat) (D : Ends) : Ends := ⟨fun σ => D.nx (σ.set i none), D.rt, fun σ => D.bk (σ.set i none), fun σ => D.ct (σ.set i none)⟩
/-- what the clauses want of an error of the body -/
def wCl (K : PySem.W.Frag) (Wo : WX) (D : Ends) : List (Value × Go) → WX
  | [], cls, d, σ, H => Wo cls d σ H
  | (c, g) :: r, cls, d, σ, H => match PySem.W.exmOne K cls c, g with
    | some true, .suite ts => ∀ a, H a = none → ts a cls d D σ H
    | some true, .named i ts => ∀ a, H a = none → i < σ.length → ts a cls d (ungo i D) (σ.set i (some (.ref a))) H
    | some false, _ => wCl K Wo D r cls d σ H
    | _, _ => False
/-- the clauses of a try; full: none is left out at the end -/
inductive Clauses (X : Cx) : Bool → List ExceptHandler → List (Value × Go) → Prop
  | none : Clauses X true [] []
  | rest {hds : List ExceptHandler} : Clauses X false hds []
  | past {f : Bool} {x : Str} {c : Value} {nm : Option Str} {bs : List Stmt} {p q : Pos} {hds : List ExceptHandler} {l : List (Value × Go)} (hc : Names X x c) (r : Clauses X f hds l) :
      Clauses X f (.ExceptHandler (some (.Name x p)) nm bs q :: hds) ((c, .past) :: l)
  | suite {f : Bool} {x : Str} {c : Value} {ts : Addr → Value → Option Addr → TS} {b : Stmt} {bs : List Stmt} {p q : Pos} {hds : List ExceptHandler} {l : List (Value × Go)} (hc : Names X x c)
      (su : ∀ (a : Addr) (oe : Obj) (cls : Value) (d : Option Addr) (pn : List (Addr × Obj)), Zc cls d oe → (∃ vs, oe.data = .fields vs) → PSs (X.suite a ((a, oe) :: pn)) (b :: bs) (ts a cls d)) (r : Clauses X f hds l) :
      Clauses X f (.ExceptHandler (some (.Name x p)) none (b :: bs) q :: hds) ((c, .suite ts) :: l)
  | named {f : Bool} {i : Nat} {x n : Str} {c : Value} {ts : Addr → Value → Option Addr → TS} {b : Stmt} {bs : List Stmt} {p q : Pos} {hds : List ExceptHandler} {l : List (Value × Go)} (hc : Names X x c)
      (hN : X.N[i]? = some n) (hn : X.N.Nodup) (hl : X.env.kindOf n = some .local)
      (su : ∀ (a : Addr) (oe : Obj) (cls : Value) (d : Option Addr) (pn : List (Addr × Obj)), Zc cls d oe → (∃ vs, oe.data = .fields vs) → PSs (X.suite a ((a, oe) :: pn)) (b :: bs) (ts a cls d)) (r : Clauses X f hds l) :
      Clauses X f (.ExceptHandler (some (.Name x p)) (some n) (b :: bs) q :: hds) ((c, .named i ts) :: l)
abbrev W0 : WX := fun _ _ _ _ => False
/-- an error that has been caught, where its clauses are asked: B, s0 tell whence it came -/
structure Cau (X : Cx) (pins : List (Addr × Obj)) (B : Heap) (s0 : Shared) (a : Addr) (cls : Value) (d : Option Addr) (σ : L2.St) (H : Hp) (s : Shared) : Prop where
  ok : X.Ok
  fr : X.env.frame = some X.env.locals
  st : X.stack = X.env :: X.outer
  inv : Inv X pins σ H s0
  nb : ∀ b o, s0.heap.get? b = some o → b ∉ frs X.stack → B.get? b = some o
  up : s0.heap.UpToSlots s.heap
  os : s.os = s0.os
  gens : AllBare s.gens
  fly : HandSPX.FlyingZ B (X.env :: X.outer) a (Zc cls d) s.heap
  new : H a = none
section
variable {X : Cx} {pins : List (Addr × Obj)} {B : Heap} {s0 s : Shared} {a : Addr} {cls : Value} {d : Option Addr} {σ : L2.St} {H : Hp}
theorem Cau.here (c : Cau X pins B s0 a cls d σ H s) : Inv X pins σ H s := c.inv.landed c.nb c.fly.1 c.up c.os c.gens
theorem Cau.hop (c : Cau X pins B s0 a cls d σ H s) {h : Heap} (f : HandSPX.FlyingZ B (X.env :: X.outer) a (Zc cls d) h) (u : s.heap.UpToSlots h) : Cau X pins B s0 a cls d σ H { s with heap := h } :=
  { c with up := c.up.trans u, fly := f }
/-- seen from within a clause -/
theorem Cau.within (c : Cau X pins B s0 a cls d σ H s) : ∃ (oe : Obj) (vs : Array Value), s.heap.get? a = some oe ∧ Zc cls d oe ∧ oe.data = .fields vs ∧ Inv (X.suite a ((a, oe) :: (X.pn ++ pins))) [] σ H s := by
  obtain ⟨oe, vs, e1, e2, e3⟩ := c.fly.there
  have apart : a ∉ frs (X.env :: X.outer) := by
    intro hm
    obtain ⟨q, u, e4, e5⟩ := c.fly.2.2.1.mem hm
    rw [e1] at e4
    cases e4
    exact e5 _ e3
  have mine : ∀ e ∈ X.env :: X.outer, e.frame ≠ some a := fun e he q => apart (List.mem_filterMap.mpr ⟨e, he, q⟩)
  refine ⟨oe, vs, e1, e2, e3, c.here.suite e1 e3 c.new ?_ ?_⟩
  · intro q
    exact mine X.env List.mem_cons_self (by rw [c.fr, q])
  · intro q
    obtain ⟨e, he, hf⟩ := List.mem_filterMap.mp q
    exact mine e (List.mem_cons_of_mem _ he) hf
theorem Cau.name (c : Cau X pins B s0 a cls d σ H s) {x : Str} {p : Pos} {v : Value} {Q E : Value → Shared → Prop} (hx : Names X x v) (q : Q v s) : wpAny (model X.prog X.w) (X.A.mark (some (.ref a))) (eval (.Name x p) X.env) Q E s := by
  obtain ⟨oe, vs, _, _, _, I⟩ := c.within
  rcases hx with ⟨g, nd, m | ⟨m, bv, nn⟩⟩
  · exact ld_glob I g m q nd
  · exact ld_blt I g m bv q nn nd
/-- a clause is asked -/
theorem Cau.ask (c : Cau X pins B s0 a cls d σ H s) {x : Str} {p q : Pos} {v : Value} {nm : Option Str} {bs : List Stmt} {hds : List ExceptHandler} {k : Bool} {Q : Flow → Shared → Prop} (hx : Names X x v) (hk : PySem.W.exmOne X.K cls v = some k)
    (no : k = false → wpAny (model X.prog X.w) X.A (handleBy (.ref a) X.env hds) Q X.xe s)
    (yes : k = true → codeAny (model X.prog X.w) (X.A.mark (some (.ref a))) (.handlers (.ref a) [.ExceptHandler none nm bs q] X.env) (fun r s2 => match r with
      | .ok f => (match nm with
        | none => Q f s2
        | some n => wpAny (model X.prog X.w) X.A (do bindName X.env n .none; unbindBehindTheSuite X.env n q) (fun _ s3 => Q f s3) X.xe s2)
      | .error y => cameBackBy (model X.prog X.w) X.A X.env X.xe y s2) s) :
    wpAny (model X.prog X.w) X.A (handleBy (.ref a) X.env (.ExceptHandler (some (.Name x p)) nm bs q :: hds)) Q X.xe s := by
  obtain ⟨oe, _, e1, e2, _⟩ := c.fly.there
  have ty : PySem.W.Looks (model X.prog X.w) s.heap (typeOf (.ref a)) cls := fun A Q E u k' h => wpAny_typeOf_ref (k' _ _ e1) (by rw [e2.1]; exact h)
  refine wpAny_handleBy_cons (codeAny_handlers_test (c.name hx ?_)) nofun
  refine (PySem.W.exm_one (M := model X.prog X.w) c.here.kIn ty hk).here ?_
  cases k
  · exact no rfl
  · exact yes rfl
theorem sp_unsuite {D : Ends} {q : Addr × Obj} {pn : List (Addr × Obj)} (ok : X.Ok) : ∀ {f : Flow} {s : Shared}, SP (X.suite a (q :: (X.pn ++ pins))) pn D f s → SP X pins D f s
  | .next, _, ⟨_, _, I, w⟩ => ⟨_, _, I.unsuite ok, w⟩
  | .brk, _, ⟨_, _, I, w⟩ => ⟨_, _, I.unsuite ok, w⟩
  | .cont, _, ⟨_, _, I, w⟩ => ⟨_, _, I.unsuite ok, w⟩
  | .ret _, _, ⟨_, _, _, I, r, w⟩ => ⟨_, _, _, I.unsuite ok, r, w⟩
/-- .. the name going -/
theorem sp_ungo {D : Ends} {i : Nat} {n : Str} {pos : Pos} (hn : X.N.Nodup) (hN : X.N[i]? = some n) (hl : X.env.kindOf n = some .local) : ∀ {f : Flow} {s : Shared}, SP X pins (ungo i D) f s →
    wpAny (model X.prog X.w) X.A (do bindName X.env n .none; unbindBehindTheSuite X.env n pos) (fun _ s' => SP X pins D f s') X.xe s
  | .next, _, ⟨_, _, I, w⟩ => gone_ok I hn hN hl fun _ J => ⟨_, _, J, w⟩
  | .brk, _, ⟨_, _, I, w⟩ => gone_ok I hn hN hl fun _ J => ⟨_, _, J, w⟩
  | .cont, _, ⟨_, _, I, w⟩ => gone_ok I hn hN hl fun _ J => ⟨_, _, J, w⟩
  | .ret _, _, ⟨_, _, _, I, r, w⟩ => gone_ok I hn hN hl fun _ J => ⟨_, _, _, J, r, w⟩
/-- no clause is left: the error goes on -/
theorem Cau.out (c : Cau X pins B s0 a cls d σ H s) {Wo : WX} {Q : Flow → Shared → Prop} (tk : Takes X Wo) (w : Wo cls d σ H) : wpAny (model X.prog X.w) X.A (handleBy (.ref a) X.env []) Q X.xe s := by
  obtain ⟨_, _, _, oe, vs, T, oT, ts', e1, e2, e3, e4, _⟩ := id c.fly
  refine wpAny_handleBy_nil ?_
  unfold PySem.passOn
  refine wpAny_bind (wpAny_field e1 e3 e4 ?_)
  rw [if_neg (by simp)]
  have go : wpAny (model X.prog X.w) X.A (setFlight (.ref a) X.env.frame) (fun _ s2 => wpAny (model X.prog X.w) X.A (throw (.ref a) : Sem Flow) Q X.xe s2) X.xe s := by
    rw [c.fr]
    refine HandSPX.setFlight_upZ c.fly fun h2 hh u2 => wpAny_throw (tk _ _ ⟨a, B, s0, pins, σ, H, cls, d, rfl, c.inv, c.nb, c.up.trans u2, ?_, c.new, c.os, c.gens, w⟩)
    rw [c.st]
    exact .inr (.inr hh)
  first
    | exact wpAny_bind (wpAny_pure (wpAny_bind go))
    | exact wpAny_bind go
/-- the clauses, one behind the other -/
theorem Cau.handle {Wo : WX} {D : Ends} {f : Bool} {hds : List ExceptHandler} {l : List (Value × Go)} (hh : Clauses X f hds l) : (f = true ∧ Takes X Wo) ∨ (∀ cls d σ H, ¬ Wo cls d σ H) → Cau X pins B s0 a cls d σ H s → wCl X.K Wo D l cls d σ H →
    wpAny (model X.prog X.w) X.A (handleBy (.ref a) X.env hds) (SP X pins D) X.xe s := by
  induction hh with
  | none =>
    intro tk c w
    rcases tk with ⟨_, tk⟩ | no
    · exact c.out tk w
    · exact (no _ _ _ _ w).elim
  | rest =>
    intro tk c w
    rcases tk with ⟨q, _⟩ | no
    · cases q
    · exact (no _ _ _ _ w).elim
  | past hc r ih =>
    intro tk c w
    simp only [wCl] at w
    split at w
    · rename_i q; cases q
    · rename_i q; cases q
    · rename_i e
      exact c.ask hc e (fun _ => ih tk c w) nofun
    · exact w.elim
  | suite hc su r ih =>
    intro tk c w
    simp only [wCl] at w
    split at w
    · rename_i e q
      cases q
      refine c.ask hc e nofun fun _ => codeAny_handlers_suite (HandSPX.lands_againZ c.fly fun h f2 u2 => ?_)
      obtain ⟨oe, vs, _, z, dd, I⟩ := (c.hop f2 u2).within
      exact wpAny_mono ((su a oe cls d (X.pn ++ pins) z ⟨vs, dd⟩).run [] _ _ _ _ I (w a c.new)) (fun f s6 hs => sp_unsuite c.ok hs) fun _ _ q => q.elim
    · rename_i q; cases q
    · rename_i e
      exact c.ask hc e (fun _ => ih tk c w) nofun
    · exact w.elim
  | named hc hN hn hl su r ih =>
    intro tk c w
    simp only [wCl] at w
    split at w
    · rename_i q; cases q
    · rename_i e q
      cases q
      refine c.ask hc e nofun fun _ => codeAny_handlers_suite_as (HandSPX.lands_againZ c.fly fun h f2 u2 => ?_)
      obtain ⟨oe, vs, _, z, dd, I⟩ := (c.hop f2 u2).within
      refine store_ok (X := X.suite a ((a, oe) :: (X.pn ++ pins))) (v := .ref a) I hn hN (.inl hl) rfl (fun s5 I5 => ?_) (.inr hl)
      exact wpAny_mono ((su a oe cls d (X.pn ++ pins) z ⟨vs, dd⟩).run [] _ _ _ _ I5 (w a c.new (by rw [I.len]; exact (List.getElem?_eq_some_iff.mp hN).1))) (fun f s6 hs => sp_ungo hn hN hl (sp_unsuite c.ok hs)) fun _ _ q => q.elim
    · rename_i e
      exact c.ask hc e (fun _ => ih tk c w) nofun
    · exact w.elim
end
section
variable {X : Cx} {body : List Stmt} {h0 : ExceptHandler} {hds : List ExceptHandler} {l : List (Value × Go)} {pos : Pos} {tb : WX → TS} {Wo : WX}
theorem sp_untry {pins pn : List (Addr × Obj)} {xe : Value → Shared → Prop} {D : Ends} (ok : X.Ok) : ∀ {f : Flow} {s : Shared}, SP (X.tr (X.pn ++ pins) xe) pn D f s → SP X pins D f s
  | .next, _, ⟨_, _, I, w⟩ => ⟨_, _, I.ofTry ok, w⟩
  | .brk, _, ⟨_, _, I, w⟩ => ⟨_, _, I.ofTry ok, w⟩
  | .cont, _, ⟨_, _, I, w⟩ => ⟨_, _, I.ofTry ok, w⟩
  | .ret _, _, ⟨_, _, _, I, r, w⟩ => ⟨_, _, _, I.ofTry ok, r, w⟩
theorem ps_clauses {full : Bool} (st : X.stack = X.env :: X.outer) (fr : X.env.frame = some X.env.locals) (tk : (full = true ∧ Takes X Wo) ∨ (∀ cls d σ H, ¬ Wo cls d σ H))
    (hb : ∀ (W : WX) (pn : List (Addr × Obj)) (xe : Value → Shared → Prop), Takes (X.tr pn xe) W → PassesOwn (model X.prog X.w) X.A X.env xe → PSs (X.tr pn xe) body (tb W))
    (hh : Clauses X full (h0 :: hds) l) : PS X (.Try body (h0 :: hds) [] [] pos) (fun D σ H => tb (wCl X.K Wo D l) D σ H) := by
  refine ⟨fun pins s σ H D I h => wpAny_Try_except ?_⟩
  have frs' : X.A.frames = some (X.env :: X.outer) := I.ok.frames.trans (congrArg some st)
  have caught : ∀ xe u s', XE (X.tr (X.pn ++ pins) xe) (wCl X.K Wo D l) u s' → wpAny (model X.prog X.w) X.A (noteFrame u X.env) (fun _ s2 => wpAny (model X.prog X.w) X.A (setFlight u none) (fun _ s3 => wpAny (model X.prog X.w) X.A (handleBy u X.env (h0 :: hds)) (SP X pins D) X.xe s3) X.xe s2) X.xe s' := by
    rintro xe u s' ⟨a, B, sI, pn', σ', H', cls, d, rfl, J, nb, up, sky, new, os, gens, w⟩
    refine Sky.land Zc.steady frs' fr (st ▸ sky) fun h f u2 => ?_
    exact Cau.handle (B := B) (s0 := sI) hh tk ⟨I.ok, fr, st, J.ofTry I.ok, nb, up.trans u2, os, gens, f, new⟩ w
  refine wpAny_mono ((hb (wCl X.K Wo D l) (X.pn ++ pins) (fun u s' => wpAny (model X.prog X.w) X.A (noteFrame u X.env) (fun _ s2 => wpAny (model X.prog X.w) X.A (setFlight u none) (fun _ s3 => wpAny (model X.prog X.w) X.A (handleBy u X.env (h0 :: hds)) (SP X pins D) X.xe s3) X.xe s2) X.xe s')
    (fun u s' x => caught _ u s' x) PassesOwn.looking).run [] s σ H D (I.toTry _) h) (fun f s1 hs => ?_) fun _ _ q => q
  have done := sp_untry I.ok hs
  cases f with
  | next => exact wpAny_execs_nil done
  | _ => exact done
end
/-- what a clause of a teller tells: a text; a text and the kept int; what is kept (f: the field; i: the slot of the error's name) -/
inductive TlC where
  | txt (t : List Nat)
  | pre (p : List Nat) (f : Str) (i : Nat)
  | fld (f : Str) (i : Nat)
/-- the clauses of a teller: the class, what is told (none: a clause that is passed) -/
inductive TellHs (K : PySem.W.Frag) (mg : Str → Option Value) (Ng : List Str) (sg : Scope) : List ExceptHandler → List (Value × Option TlC) → Prop
  | nil {hds : List ExceptHandler} : TellHs K mg Ng sg hds []
  | ret {e z : Str} {c : Value} {t : List Nat} {j : Nat} {p4 p5 p6 p7 : Pos} {hds : List ExceptHandler} {hs : List (Value × Option TlC)} (h1 : sg.names.lookup e = some .globalImplicit) (h2 : mg e = some c) (h3 : (e == ("__debug__" : Str)) = false) (h4 : z = strOf t)
      (r : TellHs K mg Ng sg hds hs) : TellHs K mg Ng sg (.ExceptHandler (some (.Name e p4)) none [.Return (some (.Constant (.str z) j p5)) p6] p7 :: hds) ((c, some (.txt t)) :: hs)
  | skip {e : Str} {c : Value} {nm : Option Str} {suite : List Stmt} {p4 p7 : Pos} {hds : List ExceptHandler} {hs : List (Value × Option TlC)} (h1 : sg.names.lookup e = some .globalImplicit) (h2 : mg e = some c) (h3 : (e == ("__debug__" : Str)) = false)
      (r : TellHs K mg Ng sg hds hs) : TellHs K mg Ng sg (.ExceptHandler (some (.Name e p4)) nm suite p7 :: hds) ((c, none) :: hs)
  | pre {e n f z st : Str} {C : Addr} {p : List Nat} {i j : Nat} {p4 p5 p6 p7 p8 p9 p10 p11 p12 : Pos} {hds : List ExceptHandler} {hs : List (Value × Option TlC)} (h1 : sg.names.lookup e = some .globalImplicit) (h2 : mg e = some (.ref C)) (h3 : (e == ("__debug__" : Str)) = false) (h4 : z = strOf p)
      (xf : XfC K C) (hno : PySem.W.findIn K (.ref C) f = some none) (hN : Ng[i]? = some n) (hl : sg.names.lookup n = some .local) (hd : (n == ("__debug__" : Str)) = false) (hcd : (n == ("__classdict__" : Str)) = false) (hst : st = "str") (g1 : sg.names.lookup st = some .globalImplicit) (g2 : mg st = none)
      (r : TellHs K mg Ng sg hds hs) : TellHs K mg Ng sg (.ExceptHandler (some (.Name e p4)) (some n) [.Return (some (.BinOp (.Constant (.str z) j p5) .Add (.Call (.Name st p6) [.Attribute (.Name n p7) f p8] [] p9) p10)) p11] p12 :: hds) ((.ref C, some (.pre p f i)) :: hs)
  | fld {e n f : Str} {C : Addr} {i : Nat} {p4 p7 p8 p11 p12 : Pos} {hds : List ExceptHandler} {hs : List (Value × Option TlC)} (h1 : sg.names.lookup e = some .globalImplicit) (h2 : mg e = some (.ref C)) (h3 : (e == ("__debug__" : Str)) = false)
      (xf : XfC K C) (hno : PySem.W.findIn K (.ref C) f = some none) (hN : Ng[i]? = some n) (hl : sg.names.lookup n = some .local) (hd : (n == ("__debug__" : Str)) = false) (hcd : (n == ("__classdict__" : Str)) = false)
      (r : TellHs K mg Ng sg hds hs) : TellHs K mg Ng sg (.ExceptHandler (some (.Name e p4)) (some n) [.Return (some (.Attribute (.Name n p7) f p8)) p11] p12 :: hds) ((.ref C, some (.fld f i)) :: hs)
/-- what is told of an error of this class -/
def tellOf (K : PySem.W.Frag) (cls : Value) : List (Value × Option TlC) → Option TlC
  | [] => none
  | (c, o) :: r => match PySem.W.exmOne K cls c with
    | some true => (match o with
      | some (.txt t) => some (.txt t)
      | some z => if c = cls then some z else none
      | none => none)
    | some false => tellOf K cls r
    | none => none
/-- what a clause wants -/
def wOne (Q : VK) (cls : Value) (d : Option Addr) (H : Hp) : TlC → Prop
  | .txt t => Q (.str (strOf t)) H
  | .pre p f _ => ∃ (C dd : Addr) (fs : List (Str × V)) (i : Int), cls = .ref C ∧ d = some dd ∧ H dd = some (.xd fs) ∧ fs.lookup f = some (.int i) ∧ i.natAbs.log2 < 1920 ∧ p.length + (intStr i).length ≤ line ∧ Q (.str (strOf (p ++ intStr i))) H
  | .fld f _ => ∃ (C dd : Addr) (fs : List (Str × V)) (v : V), cls = .ref C ∧ d = some dd ∧ H dd = some (.xd fs) ∧ fs.lookup f = some v ∧ Q v H
def wTl (K : PySem.W.Frag) (Q : VK) (cls : Value) (d : Option Addr) (H : Hp) : List (Value × Option TlC) → Prop
  | [] => False
  | (c, o) :: r => ∃ b, PySem.W.exmOne K cls c = some b ∧ (b = true → ∃ t, o = some t ∧ (c = cls ∨ ∃ l, t = .txt l) ∧ wOne Q cls d H t) ∧ (b = false → wTl K Q cls d H r)
theorem tell_w {K : PySem.W.Frag} {Q : VK} {cls : Value} {d : Option Addr} {H : Hp} {t : TlC} : ∀ {hs : List (Value × Option TlC)}, tellOf K cls hs = some t → wOne Q cls d H t → wTl K Q cls d H hs
  | [], h, _ => by simp [tellOf] at h
  | (c, o) :: r, h, q => by
    simp only [tellOf] at h
    split at h
    · rename_i e
      refine ⟨true, e, fun _ => ?_, fun z => by cases z⟩
      split at h
      · cases h
        exact ⟨_, rfl, .inr ⟨_, rfl⟩, q⟩
      · split at h
        · rename_i hc
          cases h
          exact ⟨_, rfl, .inl hc, q⟩
        · cases h
      · cases h
    · rename_i e
      refine ⟨false, e, ?_, fun _ => tell_w h q⟩
      intro z; cases z
    · cases h
def TTell (K : PySem.W.Frag) (hs : List (Value × Option TlC)) : (XK → Hp → VK → Prop) → Hp → VK → Prop := fun tl H Q =>
  tl (fun cls d H' => wTl K Q cls d H' hs) H (fun _ H' => Q (.str (strOf [])) H')
def adOf : Value → Addr
  | .ref C => C
  | _ => 0
def rStrI : List V → Hp → VK → Prop := fun xs H Q => ∃ i, xs = [.int i] ∧ i.natAbs.log2 < 1920 ∧ Q (.str (toString i)) H
def rAddT : V → V → Hp → VK → Prop := fun x y H Q => ∃ i j, x = .str i ∧ y = .str j ∧ i.length + j.length ≤ sizeLine ∧ Q (.str (i ++ j)) H
def tsOf : Value × Option TlC → Value × Go
  | (c, some (.txt t)) => (c, .suite fun _ _ _ => tRet (tC (.str (strOf t))))
  | (c, some (.pre p f i)) => (c, .named i fun a cls d => tRet (tOp rAddT (tC (.str (strOf p))) (tCB rStrI (tCons (tXf a cls d (adOf c) f (tVar i)) tNil))))
  | (c, some (.fld f i)) => (c, .named i fun a cls d => tRet (tXf a cls d (adOf c) f (tVar i)))
  | (c, none) => (c, .past)
section
variable {X : Cx}
theorem hds_of (Y : Cx) {Ng : List Str} {sg : Scope} (hY : Y.mg = X.mg) (hK : Y.K = X.K) (hNg : Y.N = Ng) (hnd : Ng.Nodup) (hsc : Y.env.scope = sg) (hs' : ∀ e, sg.names.lookup e = some .globalImplicit → Gl Y e) : ∀ {hds : List ExceptHandler} {hs : List (Value × Option TlC)}, TellHs X.K X.mg Ng sg hds hs → Clauses Y false hds (hs.map tsOf)
  | _, _, .nil => .rest
  | _, _, .ret h1 h2 h3 h4 r => by
    subst h4
    exact .suite ⟨hs' _ h1, h3, .inl (by rw [hY]; exact h2)⟩ (fun a oe cls d pn _ _ => pss_one (ps_ret pe_str)) (hds_of Y hY hK hNg hnd hsc hs' r)
  | _, _, .skip h1 h2 h3 r => .past ⟨hs' _ h1, h3, .inl (by rw [hY]; exact h2)⟩ (hds_of Y hY hK hNg hnd hsc hs' r)
  | _, _, .pre (i := i) (n := n) (p7 := p7) (p8 := p8) h1 h2 h3 h4 xf hno hN hl hd hcd hst g1 g2 r => by
    subst h4 hst
    refine .named (i := i) (n := n) ⟨hs' _ h1, h3, .inl (by rw [hY]; exact h2)⟩ (by rw [hNg]; exact hN) (by rw [hNg]; exact hnd) (by show Y.env.scope.names.lookup n = _; rw [hsc]; exact hl) (fun a oe cls d pn hz hf => ?_) (hds_of Y hY hK hNg hnd hsc hs' r)
    have v : PE (Y.suite a ((a, oe) :: pn)) (.Name n p7) (tVar i) := pe_var (X := Y.suite a ((a, oe) :: pn)) (by show Y.N[i]? = _; rw [hNg]; exact hN) (by show Vis Y.env.scope n; rw [hsc]; exact .inl hl) hd hcd
    have at_ := pe_xf (X := Y) (pos := p8) (by rw [hK]; exact xf) (by rw [hK]; exact hno) hz hf v
    exact pss_one (ps_ret (pe_op op_add_str pe_str (pe_callTy call_str_int (X := Y.suite a ((a, oe) :: pn)) (hs' _ g1) (by show Y.mg _ = _; rw [hY]; exact g2) (by decide +kernel) (pa_cons at_ pa_nil) (by decide +kernel) (by decide +kernel))))
  | _, _, .fld (i := i) (n := n) (p7 := p7) h1 h2 h3 xf hno hN hl hd hcd r => by
    refine .named (i := i) (n := n) ⟨hs' _ h1, h3, .inl (by rw [hY]; exact h2)⟩ (by rw [hNg]; exact hN) (by rw [hNg]; exact hnd) (by show Y.env.scope.names.lookup n = _; rw [hsc]; exact hl) (fun a oe cls d pn hz hf => ?_) (hds_of Y hY hK hNg hnd hsc hs' r)
    have v : PE (Y.suite a ((a, oe) :: pn)) (.Name n p7) (tVar i) := pe_var (X := Y.suite a ((a, oe) :: pn)) (by show Y.N[i]? = _; rw [hNg]; exact hN) (by show Vis Y.env.scope n; rw [hsc]; exact .inl hl) hd hcd
    exact pss_one (ps_ret (pe_xf (X := Y) (by rw [hK]; exact xf) (by rw [hK]; exact hno) hz hf v))
theorem many_of {K : PySem.W.Frag} {D : Ends} {cls : Value} {d : Option Addr} {σ : L2.St} {H : Hp} : ∀ {hs : List (Value × Option TlC)}, wTl K D.rt cls d H hs → wCl K W0 D (hs.map tsOf) cls d σ H
  | [], h => h
  | (c, some (.txt t)) :: r, h => by
    obtain ⟨b, e, h1, h2⟩ := h
    simp only [List.map_cons, tsOf, wCl, e]
    cases b with
    | true =>
      intro a _
      obtain ⟨t', et, _, q⟩ := h1 rfl
      cases et
      exact q
    | false => exact many_of (h2 rfl)
  | (c, some (.pre p f i)) :: r, h => by
    obtain ⟨b, e, h1, h2⟩ := h
    simp only [List.map_cons, tsOf, wCl, e]
    cases b with
    | true =>
      intro a _ hi
      obtain ⟨t', et, hc, q⟩ := h1 rfl
      cases et
      have hc : c = cls := by
        rcases hc with hc | ⟨l, hc⟩
        · exact hc
        · cases hc
      subst hc
      obtain ⟨C, dd, fs, k, rfl, rfl, q1, q2, q3, q4, q5⟩ := q
      refine ⟨.ref a, List.getElem?_set_self hi, rfl, rfl, dd, fs, _, rfl, q1, q2, k, rfl, q3, _, _, rfl, rfl, ?_, ?_⟩
      · rw [digits_of, strOf_len, strOf_len, ← line_eq]
        exact q4
      · rw [digits_of, strOf_app]
        exact q5
    | false => exact many_of (h2 rfl)
  | (c, some (.fld f i)) :: r, h => by
    obtain ⟨b, e, h1, h2⟩ := h
    simp only [List.map_cons, tsOf, wCl, e]
    cases b with
    | true =>
      intro a _ hi
      obtain ⟨t', et, hc, q⟩ := h1 rfl
      cases et
      have hc : c = cls := by
        rcases hc with hc | ⟨l, hc⟩
        · exact hc
        · cases hc
      subst hc
      obtain ⟨C, dd, fs, k, rfl, rfl, q1, q2, q3⟩ := q
      exact ⟨.ref a, List.getElem?_set_self hi, rfl, rfl, dd, fs, _, rfl, q1, q2, q3⟩
    | false => exact many_of (h2 rfl)
  | (c, none) :: r, h => by
    obtain ⟨b, e, h1, h2⟩ := h
    simp only [List.map_cons, tsOf, wCl, e]
    cases b with
    | true =>
      obtain ⟨t', et, _⟩ := h1 rfl
      cases et
    | false => exact many_of (h2 rfl)
theorem tell_gives {Ng : List Str} {x a q r0 : Str} {sg : Scope} {g : Addr} {cdg : Value} {j : Nat} {p1 p2 p3 p5 p6 p8 : Pos} {h₀ : ExceptHandler} {hds : List ExceptHandler} {hs : List (Value × Option TlC)} (hnd : Ng.Nodup) (hh : TellHs X.K X.mg Ng sg (h₀ :: hds) hs) (er : r0 = strOf []) (h0 : ∀ f : Addr, (L2.start Ng [V.ref f])[0]? = some (some (V.ref f))) :
    GivesTo X Ng x sg g cdg [.Try [.Expr (.Call (.Name a p1) [] [] p2) p3] (h₀ :: hds) [] [] p8, .Return (some (.Constant (.str r0) j p5)) p6] a q (TTell X.K hs) := by
  subst er
  intro f c' s H Q tl act hc h
  refine ⟨_, pss_cons (ps_clauses (Wo := W0) (X := (cxOf C8.CX0 X.prog X.w X.K X.mg X.base Ng x sg g cdg X.A X.stack s H C8.E0).nox) (l := hs.map tsOf)
      (tb := fun W D σ H => ∃ Ech : XK, (∀ cls d σ' H', Ech cls d H' → W cls d σ' H') ∧ σ[0]? = some (some (.ref f)) ∧ H c' = some (CodeO c' q) ∧ tl Ech H fun _ H1 => D.nx σ H1)
      rfl rfl (.inr fun _ _ _ _ q => q) (fun W pn xe tk _ => ?_) (hds_of _ rfl rfl rfl hnd rfl (fun e he => he) hh)) (pss_one (ps_ret pe_str)), ?_⟩
  · refine ⟨fun pins s' σ H' D I h' => ?_⟩
    obtain ⟨Ech, hW, h1, h2, h3⟩ := h'
    have hp := act W pn xe Ech p1 p2 tk hW
    have hq := pss_one (ps_expr (pos := p3) hp rfl)
    exact hq.run pins s' σ H' D I ⟨h1, h2, h3⟩
  · exact ⟨fun cls d H' => wTl X.K Q cls d H' hs, fun cls d σ' H' w => many_of w, h0 f, hc, h⟩
end
/-- what is told of a class: by the row of the program's part and by the clauses -/
def TlIs (C : Cn) (c : Nat) : Tl → TlC → Prop
  | .txt t, z => z = .txt t ∧ okS t
  | .pre p, z => okS p ∧ ∃ f i, C.xf c = some f ∧ z = .pre p f i
  | .fld, z => ∃ f i, C.xf c = some f ∧ z = .fld f i
/-- a teller of the text -/
structure TellK (K : PySem.W.Frag) (mg : Str → Option Value) (C : Cn) (x : Str) (row : List (Option Tl)) : Prop where
  ex : ∃ (g : Addr) (pg : Arguments) (bg : List Stmt) (sg : Scope) (kV doc pm cdv ct oc : Value) (an od : Option Addr) (osl : Array (Option Value)) (Ng : List Str) (a r0 : Str) (h₀ : ExceptHandler) (hds : List ExceptHandler) (hs : List (Value × Option TlC)) (p1 p2 p3 p5 p6 p8 : Pos) (j : Nat),
    mg x = some (.ref g) ∧ PySem.W.keepIn K (.ref g) = true ∧ K.lookup g = some ⟨oc, od, .func (PySem.W.fnOf x x pg bg sg .none kV doc pm an cdv ct), osl⟩ ∧ PySem.W.codeIn K cdv x = true ∧ L2.Binds K (PySem.W.fnOf x x pg bg sg .none kV doc pm an cdv ct) [a] [] ∧
    FnScope Ng [a] sg ∧ Ng[0]? = some a ∧ Vis sg a ∧ (a == ("__debug__" : Str)) = false ∧ (a == ("__classdict__" : Str)) = false ∧
    bg = [.Try [.Expr (.Call (.Name a p1) [] [] p2) p3] (h₀ :: hds) [] [] p8, .Return (some (.Constant (.str r0) j p5)) p6] ∧ r0 = strOf [] ∧ TellHs K mg Ng sg (h₀ :: hds) hs ∧
    ∀ (c : Nat) (t : Tl) (ad : Addr), row[c]? = some (some t) → C.ca c = some ad → ∃ z, tellOf K (.ref ad) hs = some z ∧ TlIs C c t z
end G

set_option Elab.async false
set_option linter.all false
set_option autoImplicit false
set_option maxRecDepth 100000
set_option maxHeartbeats 2000000
/-! G6: results, contexts, names, small expressions. -/
namespace G
open PySem PySem.Spec PyProof.Rows L2
/-- what an error keeps -/
def ExR (C : Cn) (ρ : List Addr) (H : Hp) (c : Nat) (l : List W) (d : Option Addr) : Prop := match C.xf c with
  | none => True
  | some f => ∃ dd v w, l = [w] ∧ d = some dd ∧ H dd = some (.xd [(f, v)]) ∧ Rep C ρ H w v
/-- what is wanted of a result -/
def ResG {α β : Type} (C : Cn) (Rl : List Addr → Hp → α → β → Prop) (ρ : List Addr) (H : Hp) (r : R α) (Q : β → Hp → Prop) (E : XK) : Prop :=
  match r with
  | .ok a s => ∀ ρ' H' v, Gr ρ H ρ' H' → SR C ρ' H' s → Rl ρ' H' a v → Q v H'
  | .exc c l s => ∀ ρ' H' a d, Gr ρ H ρ' H' → SR C ρ' H' s → C.ca c = some a → ExR C ρ' H' c l d → E (.ref a) d H'
  | .err => False
section
variable {C : Cn} {ρ ρ' : List Addr} {H H' : Hp} {α β γ δ : Type} {Rl : List Addr → Hp → α → β → Prop} {Rl2 : List Addr → Hp → γ → δ → Prop}
theorem ResG.mono {r : R α} {Q : β → Hp → Prop} {E : XK} (h : ResG C Rl ρ H r Q E) (g : Gr ρ H ρ' H') : ResG C Rl ρ' H' r Q E := by
  cases r with
  | ok a s => exact fun ρ2 H2 v g2 S r => h ρ2 H2 v (g.trans g2) S r
  | exc c l s => exact fun ρ2 H2 a d g2 S e => h ρ2 H2 a d (g.trans g2) S e
  | err => exact h
theorem ResG.imp {r : R α} {Q Q' : β → Hp → Prop} {E : XK} (h : ResG C Rl ρ H r Q E) (k : ∀ v H, Q v H → Q' v H) : ResG C Rl ρ H r Q' E := by
  cases r with
  | ok a s => exact fun ρ2 H2 v g2 S r => k _ _ (h ρ2 H2 v g2 S r)
  | exc c l s => exact h
  | err => exact h
/-- one behind the other -/
theorem ResG.bnd {m : M α} {f : α → M γ} {s : ST} {Q : δ → Hp → Prop} {E : XK} (h : ResG C Rl2 ρ H (G.bnd m f s) Q E) :
    ResG C Rl ρ H (m s) (fun v H1 => ∃ ρ1 s1 a, Gr ρ H ρ1 H1 ∧ SR C ρ1 H1 s1 ∧ Rl ρ1 H1 a v ∧ ResG C Rl2 ρ1 H1 (f a s1) Q E) E := by
  unfold G.bnd at h
  cases e : m s with
  | ok a s1 =>
    rw [e] at h
    exact fun ρ1 H1 v g S r => ⟨ρ1, s1, a, g, S, r, h.mono g⟩
  | exc c l s1 => rw [e] at h; exact h
  | err => rw [e] at h; exact h
theorem ResG.opt {o : Option α} {s : ST} {Q : β → Hp → Prop} {E : XK} (h : ResG C Rl ρ H (G.opt o s) Q E) : ∃ a, o = some a ∧ ResG C Rl ρ H (.ok a s) Q E := by
  cases o with
  | none => exact h.elim
  | some a => exact ⟨a, rfl, h⟩
theorem ResG.rd {f : ST → Option α} {s : ST} {Q : β → Hp → Prop} {E : XK} (h : ResG C Rl ρ H (G.rd f s) Q E) : ∃ a, f s = some a ∧ ResG C Rl ρ H (.ok a s) Q E := by
  unfold G.rd at h
  cases e : f s with
  | none => rw [e] at h; exact h.elim
  | some a => rw [e] at h; exact ⟨a, rfl, h⟩
/-- a step that asks nothing of the heap -/
theorem ResG.pureO {o : Option γ} {f : γ → M α} {s : ST} {Q : β → Hp → Prop} {E : XK} (h : ResG C Rl ρ H (G.bnd (G.opt o) f s) Q E) : ∃ a, o = some a ∧ ResG C Rl ρ H (f a s) Q E := by
  cases o with
  | none => exact h.elim
  | some a => exact ⟨a, rfl, h⟩
theorem ResG.pureR {g : ST → Option γ} {f : γ → M α} {s : ST} {Q : β → Hp → Prop} {E : XK} (h : ResG C Rl ρ H (G.bnd (G.rd g) f s) Q E) : ∃ a, g s = some a ∧ ResG C Rl ρ H (f a s) Q E := by
  unfold G.bnd G.rd at h
  cases e : g s with
  | none => rw [e] at h; exact h.elim
  | some a => rw [e] at h; exact ⟨a, rfl, h⟩
theorem ResG.here {a : α} {v : β} {s : ST} {Q : β → Hp → Prop} {E : XK} (h : ResG C Rl ρ H (.ok a s) Q E) (S : SR C ρ H s) (r : Rl ρ H a v) : Q v H := h ρ H v Gr.refl S r
end
/-- the frame's slots -/
structure EnvR (C : Cn) (ρ : List Addr) (H : Hp) (env : Env) (σ : L2.St) : Prop where
  len : env.length = σ.length
  at_ : ∀ (i : Nat) (w : W), env[i]? = some (some w) → ∃ v, σ[i]? = some (some v) ∧ Rep C ρ H w v
section
variable {C : Cn} {ρ ρ' : List Addr} {H H' : Hp} {env : Env} {σ : L2.St}
theorem EnvR.mono (e : EnvR C ρ H env σ) (g : Gr ρ H ρ' H') : EnvR C ρ' H' env σ := ⟨e.len, fun i w h => by
  obtain ⟨v, h1, r⟩ := e.at_ i w h
  exact ⟨v, h1, r.mono g⟩⟩
theorem EnvR.set (e : EnvR C ρ H env σ) {i : Nat} {w : W} {v : V} (r : Rep C ρ H w v) : EnvR C ρ H (env.set i (some w)) (σ.set i (some v)) := ⟨by simp [e.len], fun j u h => by
  by_cases hj : i = j
  · subst hj
    by_cases hl : i < env.length
    · rw [List.getElem?_set_self hl] at h
      cases h
      exact ⟨v, List.getElem?_set_self (by rw [← e.len]; exact hl), r⟩
    · rw [List.getElem?_eq_none (by simpa using hl)] at h
      cases h
  · rw [List.getElem?_set_ne hj] at h
    obtain ⟨x, h1, h2⟩ := e.at_ j u h
    exact ⟨x, by rw [List.getElem?_set_ne hj]; exact h1, h2⟩⟩
theorem EnvR.wipe (e : EnvR C ρ H env σ) : ∀ is : List Nat, EnvR C ρ H (wipes env is) (wipe σ is)
  | [] => e
  | i :: is => by
    have ih := EnvR.wipe e is
    refine ⟨by simp only [wipes, L2.wipe, List.length_set]; exact ih.len, fun j u h => ?_⟩
    simp only [wipes] at h
    simp only [L2.wipe]
    by_cases hj : i = j
    · subst hj
      by_cases hl : i < (wipes env is).length
      · rw [List.getElem?_set_self hl] at h; cases h
      · rw [List.getElem?_eq_none (by simpa using hl)] at h; cases h
    · rw [List.getElem?_set_ne hj] at h
      obtain ⟨x, h1, h2⟩ := ih.at_ j u h
      exact ⟨x, by rw [List.getElem?_set_ne hj]; exact h1, h2⟩
end
abbrev RepR (C : Cn) : List Addr → Hp → W → V → Prop := fun ρ H w v => Rep C ρ H w v
abbrev RepsR (C : Cn) : List Addr → Hp → List W → List V → Prop := fun ρ H w v => Reps C ρ H w v
def BoolR : List Addr → Hp → Bool → Bool → Prop := fun _ _ a b => a = b
section
variable (C : Cn) (P : Pg) (call : Nat → List W → M W) (Wx : WX)
def tE (ir : E) : TE := fun σ H Q => ∃ ρ s env, EnvR C ρ H env σ ∧ SR C ρ H s ∧ ResG C (RepR C) ρ H (evE P call ir env s) Q (WE Wx σ)
def tA (ir : E) : TA := fun σ H Q => ∃ ρ s env, EnvR C ρ H env σ ∧ SR C ρ H s ∧ ResG C (RepsR C) ρ H (evA P call ir env s) Q (WE Wx σ)
/-- a test -/
def asB (m : M W) : M Bool := G.bnd m fun x => match x with | .bl b => ret b | _ => fail
def tT (ir : E) : TT := fun σ H Q => ∃ ρ s env, EnvR C ρ H env σ ∧ SR C ρ H s ∧ ResG C BoolR ρ H (asB (evE P call ir env) s) Q (WE Wx σ)
end
/-- a def's promise -/
def spD (C : Cn) (P : Pg) (d n : Nat) : Sp := fun vs H Q E => ∃ xi ρ s args, SR { C with xi := xi } ρ H s ∧ Reps { C with xi := xi } ρ H args vs ∧ ResG { C with xi := xi } (RepR { C with xi := xi }) ρ H (callD P d n args s) Q E
/-- the names of a program: defs and constants of the top, in the order of their numbers -/
structure Nm where
  fns : List Str
  cns : List Str
  tl : List Str
  tbs : List Str
def Nm.no (N : Nm) : Nm := { N with tl := [] }
def bnames : List Str := ["len", "abs", "int", "list", "tuple", "max", "min", "sum", "all", "any", "isinstance", "range", "enumerate", "zip", "str", "bool", "sorted", "dict", "set"]
/-- a written dict with texts as keys -/
structure TbOk (K : PySem.W.Frag) (w : World) (mg : Str → Option Value) (P : Pg) (C : Cn) (n : Nat) (x : Str) : Prop where
  ex : ∃ (a : Addr) (ps : List (List Nat × W)) (es : Array DictEntry) (m : Nat), mg x = some (.ref a) ∧ P.tabs[n]? = some ps ∧ KDict K w a es m ∧
    ∀ k, okS k → (∃ w u v, lookP k ps = some w ∧ PySem.W.nsIn K a (strOf k) = some (some u) ∧ RelV v u ∧ ∀ xi ρ H, Rep { C with xi := xi } ρ H w v) ∨ (lookP k ps = none ∧ PySem.W.nsIn K a (strOf k) = some none)
/-- where a body stands -/
structure Ct (X : Cx) (C : Cn) (P : Pg) (Nn : Nm) (d : Nat) (Wx : WX) : Prop where
  hK : X.K = C.K
  nd : X.N.Nodup
  calm : X.calm = true
  room : Room d X.A
  tk : Takes X Wx
  blt : ∀ x ∈ bnames, X.mg x = none
  fn : ∀ (k : Nat), k ≤ d → ∀ (n : Nat) (x : Str), Nn.fns[n]? = some x → ∃ f fd ps, C.fa n = some f ∧ X.mg x = some (.ref f) ∧ PySem.W.keepIn X.K (.ref f) = true ∧ Binds X.K fd ps [] ∧ FnOk X.prog X.w X.K X.mg X.base (L2.CX X.prog X.w) k f fd ps (spD C P k n)
  cn : ∀ (n : Nat) (x : Str), Nn.cns[n]? = some x → ∃ u v w, X.mg x = some u ∧ RelV v u ∧ P.consts[n]? = some w ∧ ∀ xi ρ H, Rep { C with xi := xi } ρ H w v
  tb : ∀ (n : Nat) (x : Str), Nn.tbs[n]? = some x → TbOk X.K X.w X.mg P C n x
  lm : ∀ (n : Nat) (x : Str), Nn.tl[n]? = some x → (∃ row, P.told[n]? = some row ∧ TellK X.K X.mg C x row) ∧
    ∃ c Pt, X.env.code = .ref c ∧ LamX.TabB X.base X.mg c Pt ∧ (Pt, X.env.qual ++ "<lambda>") ∈ C.T ∧ ∀ p ∈ C.T, p.1 = Pt → p.2 = X.env.qual ++ "<lambda>"
/-- the scope as the checker reads it -/
structure Sc (X : Cx) (sc : Scope) (cl : Bool) : Prop where
  cf : ∀ x, sc.names.lookup x = some .cell ∨ sc.names.lookup x = some .free → X.env.scope.names.lookup x = some .cell ∨ X.env.scope.names.lookup x = some .free
  st : ∀ x, (sc.names.lookup x = some .local ∨ (cl = true ∧ sc.names.lookup x = some .cell)) → Loc X.env.scope x ∧ (X.fn x = true ∨ X.env.scope.names.lookup x = some .local)
  vis : ∀ x, sc.names.lookup x = some .local ∨ sc.names.lookup x = some .cell ∨ sc.names.lookup x = some .free → Vis X.env.scope x
  gl : ∀ x, sc.names.lookup x = some .globalImplicit → Gl X x
  loc : ∀ x, sc.names.lookup x = some .local → X.env.scope.names.lookup x = some .local
section
variable {X : Cx} {C : Cn} {P : Pg} {Nn : Nm} {d : Nat} {Wx : WX}
theorem _root_.L2.PE.imp {e : Expr} {t t' : TE} (h : PE X e t) (k : ∀ σ H Q, t' σ H Q → t σ H Q) : PE X e t' := ⟨fun pins s σ H Q I q => h.run pins s σ H Q I (k σ H Q q)⟩
theorem _root_.L2.PT.imp {e : Expr} {t t' : TT} (h : PT X e t) (k : ∀ σ H Q, t' σ H Q → t σ H Q) : PT X e t' := ⟨fun pins s σ H Q I q => h.run pins s σ H Q I (k σ H Q q)⟩
theorem _root_.L2.PW.imp {e : Expr} {t t' : TT} (h : PW X e t) (k : ∀ σ H Q, t' σ H Q → t σ H Q) : PW X e t' := ⟨fun wh pins s σ H Q I q => h.run wh pins s σ H Q I (k σ H Q q)⟩
theorem _root_.L2.PA.imp {es : List Expr} {t t' : TA} (h : PA X es t) (k : ∀ σ H Q, t' σ H Q → t σ H Q) : PA X es t' := ⟨fun pos pins s σ H Q I q => h.run pos pins s σ H Q I (k σ H Q q)⟩
variable {call : Nat → List W → M W}
/-- an expression ahead of a rest -/
theorem tE.bnd {a : E} {γ δ : Type} {Rl2 : List Addr → Hp → γ → δ → Prop} {f : W → M γ} {ρ : List Addr} {H : Hp} {s : ST} {env : Env} {σ : L2.St} {Q : δ → Hp → Prop} {E : XK} {K : V → Hp → Prop} (eR : EnvR C ρ H env σ) (S : SR C ρ H s)
    (hE : E = WE Wx σ) (h : ResG C Rl2 ρ H (G.bnd (evE P call a env) f s) Q E)
    (k : ∀ ρ1 H1 s1 x v, Gr ρ H ρ1 H1 → EnvR C ρ1 H1 env σ → SR C ρ1 H1 s1 → Rep C ρ1 H1 x v → ResG C Rl2 ρ1 H1 (f x s1) Q E → K v H1) : tE C P call Wx a σ H K := by
  subst hE
  refine ⟨ρ, s, env, eR, S, ?_⟩
  refine (ResG.bnd (Rl := RepR C) h).imp fun v H1 ⟨ρ1, s1, x, g, S1, r, q⟩ => k ρ1 H1 s1 x v g (eR.mono g) S1 r q
theorem tA.bnd {a : E} {γ δ : Type} {Rl2 : List Addr → Hp → γ → δ → Prop} {f : List W → M γ} {ρ : List Addr} {H : Hp} {s : ST} {env : Env} {σ : L2.St} {Q : δ → Hp → Prop} {E : XK} {K : List V → Hp → Prop} (eR : EnvR C ρ H env σ) (S : SR C ρ H s)
    (hE : E = WE Wx σ) (h : ResG C Rl2 ρ H (G.bnd (evA P call a env) f s) Q E)
    (k : ∀ ρ1 H1 s1 x v, Gr ρ H ρ1 H1 → EnvR C ρ1 H1 env σ → SR C ρ1 H1 s1 → Reps C ρ1 H1 x v → ResG C Rl2 ρ1 H1 (f x s1) Q E → K v H1) : tA C P call Wx a σ H K := by
  subst hE
  refine ⟨ρ, s, env, eR, S, ?_⟩
  refine (ResG.bnd (Rl := RepsR C) h).imp fun v H1 ⟨ρ1, s1, x, g, S1, r, q⟩ => k ρ1 H1 s1 x v g (eR.mono g) S1 r q
/-! each construct -/
theorem s_var {i : Nat} {x : Str} {pos : Pos} (hN : X.N[i]? = some x) (hv : Vis X.env.scope x) (hd : (x == ("__debug__" : Str)) = false) (hcd : (x == ("__classdict__" : Str)) = false) : PE X (.Name x pos) (tE C P call Wx (.var i)) := by
  refine (pe_var hN hv hd hcd).imp fun σ H Q ⟨ρ, s, env, eR, S, h⟩ => ?_
  simp only [evE] at h
  obtain ⟨w, e, h⟩ := h.opt
  split at e
  · rename_i w' e'
    cases e
    obtain ⟨v, e2, r⟩ := eR.at_ i w e'
    exact ⟨v, e2, h.here S r⟩
  · cases e
theorem s_const {w : W} {v : V} {c : Expr} (hr : ∀ ρ H, Rep C ρ H w v) (hc : PE X c (tC v)) : PE X c (tE C P call Wx (.k w)) := by
  refine hc.imp fun σ H Q ⟨ρ, s, env, eR, S, h⟩ => ?_
  simp only [evE] at h
  exact h.here S (hr ρ H)
theorem s_glob {n : Nat} {x : Str} {pos : Pos} (ct : Ct X C P Nn d Wx) (hn : Nn.cns[n]? = some x) (hg : Gl X x) (hd : (x == ("__debug__" : Str)) = false) : PE X (.Name x pos) (tE C P call Wx (.glob n)) := by
  obtain ⟨u, v, w, e1, r, e2, k⟩ := ct.cn n x hn
  refine (pe_glob hg e1 r hd).imp fun σ H Q ⟨ρ, s, env, eR, S, h⟩ => ?_
  simp only [evE] at h
  obtain ⟨w', e, h⟩ := h.opt
  rw [e2] at e; cases e
  exact h.here S (k C.xi ρ H)
theorem s_bin {op : Bop} {a b : E} {ea eb : Expr} {pos : Pos} (ct : Ct X C P Nn d Wx) (ha : PE X ea (tE C P call Wx a)) (hb : PE X eb (tE C P call Wx b)) : PE X (.BinOp ea (bopO op) eb pos) (tE C P call Wx (.bin op a b)) := by
  refine (pe_op (op_bin ct.hK op) ha hb).imp fun σ H Q ⟨ρ, s, env, eR, S, h⟩ => ?_
  simp only [evE] at h
  refine tE.bnd eR S rfl h fun ρ1 H1 s1 x v g1 eR1 S1 r1 h1 => ?_
  refine tE.bnd eR1 S1 rfl h1 fun ρ2 H2 s2 y u g2 eR2 S2 r2 h2 => ?_
  obtain ⟨w, e, h2⟩ := h2.rd
  exact ⟨ρ2, s2, soft x, soft y, w, S2, Rep.soft _ _ (r1.mono g2), Rep.soft _ _ r2, e, h2⟩
theorem s_neg {a : E} {ea : Expr} {pos : Pos} (ha : PE X ea (tE C P call Wx a)) : PE X (.UnaryOp .USub ea pos) (tE C P call Wx (.neg a)) := by
  refine (pe_un un_neg ha).imp fun σ H Q ⟨ρ, s, env, eR, S, h⟩ => ?_
  simp only [evE] at h
  refine tE.bnd eR S rfl h fun ρ1 H1 s1 x v g1 eR1 S1 r1 h1 => ?_
  cases x <;> try exact h1.elim
  exact ⟨_, r1.int, h1.here S1 Rep.mkI⟩
theorem i_cmp {op : Cop} {a b : E} {σ : L2.St} {H : Hp} {Q : VK} (h : tE C P call Wx (.cmp op a b) σ H Q) : tOp (rCmp C (cmpop op)) (tE C P call Wx a) (tE C P call Wx b) σ H Q := by
  obtain ⟨ρ, s, env, eR, S, h⟩ := h
  simp only [evE] at h
  refine tE.bnd eR S rfl h fun ρ1 H1 s1 x v g1 eR1 S1 r1 h1 => ?_
  refine tE.bnd eR1 S1 rfl h1 fun ρ2 H2 s2 y u g2 eR2 S2 r2 h2 => ?_
  obtain ⟨k, e, h2⟩ := h2.pureR
  exact ⟨ρ2, s2, soft x, soft y, k, S2, Rep.soft _ _ (r1.mono g2), Rep.soft _ _ r2, e, h2.here S2 Rep.mkB⟩
/-- a test's value -/
theorem tT.val {a : E} {σ : L2.St} {H : Hp} {Q : Bool → Hp → Prop} (h : tT C P call Wx a σ H Q) : tE C P call Wx a σ H fun x H' => ∃ k, x = .bl k ∧ Q k H' := by
  obtain ⟨ρ, s, env, eR, S, h⟩ := h
  unfold asB at h
  exact tE.bnd eR S rfl h fun ρ1 H1 s1 x v g1 eR1 S1 r1 h1 => by
    cases x <;> try exact h1.elim
    exact ⟨_, r1.bl, h1.here S1 rfl⟩
theorem s_cmp {op : Cop} {a b : E} {ea eb : Expr} {pos : Pos} (ct : Ct X C P Nn d Wx) (ha : PE X ea (tE C P call Wx a)) (hb : PE X eb (tE C P call Wx b)) (hm : behindInMarks (copO op) eb = false) :
    PE X (.Compare ea [copO op] [eb] pos) (tE C P call Wx (.cmp op a b)) ∧ PT X (.Compare ea [copO op] [eb] pos) (tT C P call Wx (.cmp op a b)) := by
  have hu := ct.room.units
  exact ⟨(pe_cmpR (op_cmp ct.hK hu op) ha hb hm).imp fun σ H Q h => i_cmp h, (pt_cmpR (op_cmp ct.hK hu op) ha hb hm).imp fun σ H Q h => i_cmp h.val⟩
theorem s_dix {n : Nat} {x : Str} {a : E} {ea : Expr} {p1 pos : Pos} (ct : Ct X C P Nn d Wx) (hn : Nn.tbs[n]? = some x) (hg : Gl X x) (hd : (x == ("__debug__" : Str)) = false) (ha : PE X ea (tE C P call Wx a)) (hi : PlainIx ea) : PE X (.Subscript (.Name x p1) ea pos) (tE C P call Wx (.dix n a)) := by
  obtain ⟨ad, ps, es, m, e1, e2, D, k⟩ := (ct.tb n x hn).ex
  refine (pe_ix ix_kdict (pe_glob (v := .ref ad) hg e1 rfl hd) ha hi).imp fun σ H Q ⟨ρ, s, env, eR, S, h⟩ => ?_
  simp only [evE] at h
  refine tE.bnd eR S rfl h fun ρ1 H1 s1 y v g1 eR1 S1 r1 h1 => ?_
  rw [e2] at h1
  cases y <;> try exact h1.elim
  rename_i l
  obtain ⟨ev, hok⟩ := r1.str
  obtain ⟨w, e3, h1⟩ := h1.opt
  rcases k l hok with ⟨w', u, v', q1, q2, q3, q4⟩ | ⟨q1, _⟩
  · rw [q1] at e3; cases e3
    exact ⟨ad, strOf l, v', rfl, ev, ⟨es, m, u, D.at_, D.lit, q2, q3⟩, h1.here S1 (q4 C.xi ρ1 H1)⟩
  · rw [q1] at e3; cases e3
theorem s_din {neg : Bool} {n : Nat} {x : Str} {a : E} {ea : Expr} {p1 pos : Pos} (ct : Ct X C P Nn d Wx) (hn : Nn.tbs[n]? = some x) (hg : Gl X x) (hd : (x == ("__debug__" : Str)) = false) (ha : PE X ea (tE C P call Wx a)) :
    PE X (.Compare ea [if neg = true then .NotIn else .In] [.Name x p1] pos) (tE C P call Wx (.din neg n a)) ∧ PT X (.Compare ea [if neg = true then .NotIn else .In] [.Name x p1] pos) (tT C P call Wx (.din neg n a)) := by
  obtain ⟨ad, ps, es, m, e1, e2, D, k⟩ := (ct.tb n x hn).ex
  have hx := pe_glob (v := .ref ad) (pos := p1) hg e1 rfl hd
  have main : ∀ {σ : L2.St} {H : Hp} {Q : VK}, tE C P call Wx (.din neg n a) σ H Q → (tE C P call Wx a) σ H fun y H1 => ∃ (z : Str) (r : Option Value), y = .str z ∧ V.ref ad = V.ref ad ∧ PySem.W.nsIn X.K ad z = some r ∧ Q (.bl (cond neg (!r.isSome) r.isSome)) H1 := by
    rintro σ H Q ⟨ρ, s, env, eR, S, h⟩
    simp only [evE] at h
    refine tE.bnd eR S rfl h fun ρ1 H1 s1 y v g1 eR1 S1 r1 h1 => ?_
    rw [e2] at h1
    cases y <;> try exact h1.elim
    rename_i l
    obtain ⟨ev, hok⟩ := r1.str
    rcases k l hok with ⟨w', u, v', q1, q2, q3, q4⟩ | ⟨q1, q2⟩
    · refine ⟨strOf l, some u, ev, rfl, q2, ?_⟩
      simp only [q1] at h1
      exact h1.here S1 Rep.mkB
    · refine ⟨strOf l, none, ev, rfl, q2, ?_⟩
      simp only [q1] at h1
      exact h1.here S1 Rep.mkB
  cases neg with
  | true =>
    exact ⟨(pe_cmpR (op_notIn_kd D) ha hx rfl).imp fun σ H Q h => main h, (pt_cmpR (op_notIn_kd D) ha hx rfl).imp fun σ H Q h => main (tT.val h)⟩
  | false =>
    exact ⟨(pe_cmpR (op_in_kd D) ha hx rfl).imp fun σ H Q h => main h, (pt_cmpR (op_in_kd D) ha hx rfl).imp fun σ H Q h => main (tT.val h)⟩
theorem i_chain {op op' : Cop} {a b c : E} {σ : L2.St} {H : Hp} {Q : VK} (h : tE C P call Wx (.chain op op' a b c) σ H Q) : tChain (rCmp C (cmpop op)) (rCmp C (cmpop op')) (tE C P call Wx a) (tE C P call Wx b) (tE C P call Wx c) σ H Q := by
  obtain ⟨ρ, s, env, eR, S, h⟩ := h
  simp only [evE] at h
  refine tE.bnd eR S rfl h fun ρ1 H1 s1 x v g1 eR1 S1 r1 h1 => ?_
  refine tE.bnd eR1 S1 rfl h1 fun ρ2 H2 s2 y u g2 eR2 S2 r2 h2 => ?_
  obtain ⟨k, e, h2⟩ := h2.pureR
  refine ⟨ρ2, s2, soft x, soft y, k, S2, Rep.soft _ _ (r1.mono g2), Rep.soft _ _ r2, e, k, rfl, ?_⟩
  cases k with
  | true =>
    rw [if_pos rfl] at h2 ⊢
    refine tE.bnd eR2 S2 rfl h2 fun ρ3 H3 s3 z w g3 eR3 S3 r3 h3 => ?_
    obtain ⟨k', e', h3⟩ := h3.pureR
    exact ⟨ρ3, s3, soft y, soft z, k', S3, Rep.soft _ _ (r2.mono g3), Rep.soft _ _ r3, e', h3.here S3 Rep.mkB⟩
  | false =>
    rw [if_neg Bool.false_ne_true] at h2 ⊢
    exact h2.here S2 Rep.mkB
theorem s_chain {op op' : Cop} {a b c : E} {ea eb ec : Expr} {pos : Pos} (ct : Ct X C P Nn d Wx) (ha : PE X ea (tE C P call Wx a)) (hb : PE X eb (tE C P call Wx b)) (hc : PE X ec (tE C P call Wx c)) (hm : lastMarks [copO op, copO op'] [eb, ec] = false) :
    PE X (.Compare ea [copO op, copO op'] [eb, ec] pos) (tE C P call Wx (.chain op op' a b c)) ∧ PT X (.Compare ea [copO op, copO op'] [eb, ec] pos) (tT C P call Wx (.chain op op' a b c)) := by
  have hu := ct.room.units
  exact ⟨(pe_chain (op_cmp ct.hK hu op) (op_cmp ct.hK hu op') ha hb hc hm).imp fun σ H Q h => i_chain h, (pt_chain (op_cmp ct.hK hu op) (op_cmp ct.hK hu op') ha hb hc hm).imp fun σ H Q h => i_chain h.val⟩
theorem bnd_assoc {α β γ : Type} (m : M α) (f : α → M β) (g : β → M γ) : G.bnd (G.bnd m f) g = G.bnd m fun x => G.bnd (f x) g := by
  funext s
  unfold G.bnd
  cases m s <;> rfl
/-- a test ahead of a rest -/
theorem tT.bnd {a : E} {γ δ : Type} {Rl2 : List Addr → Hp → γ → δ → Prop} {f : W → M γ} {ρ : List Addr} {H : Hp} {s : ST} {env : Env} {σ : L2.St} {Q : δ → Hp → Prop} {E : XK} {K : Bool → Hp → Prop} (eR : EnvR C ρ H env σ) (S : SR C ρ H s)
    (hE : E = WE Wx σ) (h : ResG C Rl2 ρ H (G.bnd (evE P call a env) f s) Q E) (hf : ∀ x s, (∀ b, x ≠ .bl b) → f x s = .err)
    (k : ∀ ρ1 H1 s1 b, Gr ρ H ρ1 H1 → EnvR C ρ1 H1 env σ → SR C ρ1 H1 s1 → ResG C Rl2 ρ1 H1 (f (.bl b) s1) Q E → K b H1) : tT C P call Wx a σ H K := by
  subst hE
  refine ⟨ρ, s, env, eR, S, ?_⟩
  unfold asB G.bnd
  unfold G.bnd at h
  cases e : evE P call a env s with
  | ok x s1 =>
    rw [e] at h
    have bad : (∀ b, x ≠ .bl b) → False := fun hx => by
      have := hf x s1 hx
      simp only [this] at h
      exact h
    cases x with
    | bl b =>
      intro ρ1 H1 v g S1 r
      have r' : b = v := r
      subst r'
      exact k ρ1 H1 s1 b g (eR.mono g) S1 (ResG.mono h g)
    | _ => exact (bad (fun b q => by cases q)).elim
  | exc c l s1 => rw [e] at h; exact h
  | err => rw [e] at h; exact h
theorem s_and {a b : E} {ea eb : Expr} {rest : List Expr} {pos : Pos} (ha : PE X ea (tE C P call Wx a)) (ha' : PT X ea (tT C P call Wx a)) (hb : PE X (.BoolOp .And (eb :: rest) pos) (tE C P call Wx b)) (hb' : PW X (.BoolOp .And (eb :: rest) pos) (tT C P call Wx b)) :
    PE X (.BoolOp .And (ea :: eb :: rest) pos) (tE C P call Wx (.and a b)) ∧ PW X (.BoolOp .And (ea :: eb :: rest) pos) (tT C P call Wx (.and a b)) := by
  refine ⟨(pe_and ha hb).imp fun σ H Q ⟨ρ, s, env, eR, S, h⟩ => ?_, (pw_and ha' hb').imp fun σ H Q ⟨ρ, s, env, eR, S, h⟩ => ?_⟩
  · simp only [evE] at h
    refine tE.bnd eR S rfl h fun ρ1 H1 s1 x v g1 eR1 S1 r1 h1 => ?_
    cases x <;> try exact h1.elim
    rename_i k
    refine ⟨k, r1.bl, ?_⟩
    cases k with
    | true => rw [if_pos rfl]; exact ⟨ρ1, s1, env, eR1, S1, h1⟩
    | false => rw [if_neg Bool.false_ne_true]; exact h1.here S1 Rep.mkB
  · unfold asB at h
    simp only [evE] at h
    rw [bnd_assoc] at h
    refine tT.bnd eR S rfl h (fun x s hx => ?_) fun ρ1 H1 s1 k g1 eR1 S1 h1 => ?_
    · cases x <;> first | rfl | exact (hx _ rfl).elim
    · cases k with
      | true => rw [if_pos rfl]; exact ⟨ρ1, s1, env, eR1, S1, h1⟩
      | false => rw [if_neg Bool.false_ne_true]; exact h1.here S1 rfl
theorem s_or {a b : E} {ea eb : Expr} {rest : List Expr} {pos : Pos} (ha : PE X ea (tE C P call Wx a)) (ha' : PT X ea (tT C P call Wx a)) (hb : PE X (.BoolOp .Or (eb :: rest) pos) (tE C P call Wx b)) (hb' : PW X (.BoolOp .Or (eb :: rest) pos) (tT C P call Wx b)) :
    PE X (.BoolOp .Or (ea :: eb :: rest) pos) (tE C P call Wx (.or a b)) ∧ PW X (.BoolOp .Or (ea :: eb :: rest) pos) (tT C P call Wx (.or a b)) := by
  refine ⟨(pe_or ha hb).imp fun σ H Q ⟨ρ, s, env, eR, S, h⟩ => ?_, (pw_or ha' hb').imp fun σ H Q ⟨ρ, s, env, eR, S, h⟩ => ?_⟩
  · simp only [evE] at h
    refine tE.bnd eR S rfl h fun ρ1 H1 s1 x v g1 eR1 S1 r1 h1 => ?_
    cases x <;> try exact h1.elim
    rename_i k
    refine ⟨k, r1.bl, ?_⟩
    cases k with
    | true => rw [if_pos rfl]; exact h1.here S1 Rep.mkB
    | false => rw [if_neg Bool.false_ne_true]; exact ⟨ρ1, s1, env, eR1, S1, h1⟩
  · unfold asB at h
    simp only [evE] at h
    rw [bnd_assoc] at h
    refine tT.bnd eR S rfl h (fun x s hx => ?_) fun ρ1 H1 s1 k g1 eR1 S1 h1 => ?_
    · cases x <;> first | rfl | exact (hx _ rfl).elim
    · cases k with
      | true => rw [if_pos rfl]; exact h1.here S1 rfl
      | false => rw [if_neg Bool.false_ne_true]; exact ⟨ρ1, s1, env, eR1, S1, h1⟩
theorem s_not {a : E} {ea : Expr} {pos : Pos} (ha : PE X ea (tE C P call Wx a)) (ha' : PT X ea (tT C P call Wx a)) :
    PE X (.UnaryOp .Not ea pos) (tE C P call Wx (.not a)) ∧ PT X (.UnaryOp .Not ea pos) (tT C P call Wx (.not a)) := by
  refine ⟨(pe_not ha).imp fun σ H Q ⟨ρ, s, env, eR, S, h⟩ => ?_, (pt_not ha').imp fun σ H Q ⟨ρ, s, env, eR, S, h⟩ => ?_⟩
  · simp only [evE] at h
    refine tE.bnd eR S rfl h fun ρ1 H1 s1 x v g1 eR1 S1 r1 h1 => ?_
    cases x <;> try exact h1.elim
    exact ⟨_, r1.bl, h1.here S1 Rep.mkB⟩
  · unfold asB at h
    simp only [evE] at h
    rw [bnd_assoc] at h
    refine tT.bnd eR S rfl h (fun x s hx => ?_) fun ρ1 H1 s1 k g1 eR1 S1 h1 => ?_
    · cases x <;> first | rfl | exact (hx _ rfl).elim
    · exact h1.here S1 rfl
theorem s_ife {c a b : E} {ec ea eb : Expr} {pos : Pos} (hc : PT X ec (tT C P call Wx c)) (ha : PE X ea (tE C P call Wx a)) (hb : PE X eb (tE C P call Wx b)) : PE X (.IfExp ec ea eb pos) (tE C P call Wx (.ife c a b)) := by
  refine (pe_ifExp hc ha hb).imp fun σ H Q ⟨ρ, s, env, eR, S, h⟩ => ?_
  simp only [evE] at h
  refine tT.bnd eR S rfl h (fun x s hx => ?_) fun ρ1 H1 s1 k g1 eR1 S1 h1 => ?_
  · cases x <;> first | rfl | exact (hx _ rfl).elim
  · cases k with
    | true => rw [if_pos rfl]; exact ⟨ρ1, s1, env, eR1, S1, h1⟩
    | false => rw [if_neg Bool.false_ne_true]; exact ⟨ρ1, s1, env, eR1, S1, h1⟩
/-! rows -/
theorem s_nil : PA X [] (tA C P call Wx .nil) := by
  refine pa_nil.imp fun σ H Q ⟨ρ, s, env, eR, S, h⟩ => ?_
  simp only [evA] at h
  exact h.here (v := []) S (by show Reps C ρ H [] []; simp only [Reps])
theorem s_cons {a b : E} {ea : Expr} {es : List Expr} (ha : PE X ea (tE C P call Wx a)) (hb : PA X es (tA C P call Wx b)) (hs : starEach (ea :: es) X.env = (false, eval ea X.env) :: starEach es X.env) : PA X (ea :: es) (tA C P call Wx (.cons a b)) := by
  refine (pa_cons ha hb hs).imp fun σ H Q ⟨ρ, s, env, eR, S, h⟩ => ?_
  simp only [evA] at h
  refine tE.bnd eR S rfl h fun ρ1 H1 s1 x v g1 eR1 S1 r1 h1 => ?_
  refine tA.bnd eR1 S1 rfl h1 fun ρ2 H2 s2 y u g2 eR2 S2 r2 h2 => ?_
  exact h2.here S2 (Reps.mk (r1.mono g2) r2)
theorem ResG.fits {α β : Type} {Rl : List Addr → Hp → α → β → Prop} {ρ : List Addr} {H : Hp} {γ : Type} {m : M (List γ)} {f : List γ → M α} {s : ST} {Q : β → Hp → Prop} {E : XK} (h : ResG C Rl ρ H (G.bnd (G.fits m) f s) Q E) :
    ResG C Rl ρ H (G.bnd m (fun xs => if xs.length ≤ line then f xs else fail) s) Q E := by
  unfold G.fits at h
  rw [bnd_assoc] at h
  have e : (fun xs : List γ => G.bnd (if xs.length ≤ line then ret xs else fail) f) = fun xs => if xs.length ≤ line then f xs else fail := by
    funext xs
    split
    · funext s; rfl
    · funext s; rfl
  rw [e] at h
  exact h
theorem s_tup {l : E} {es : List Expr} {k : Nat} {pos : Pos} (hl : PA X es (tA C P call Wx l)) : PE X (.Tuple es k pos) (tE C P call Wx (.tup l)) := by
  refine (pe_tup hl).imp fun σ H Q ⟨ρ, s, env, eR, S, h⟩ => ?_
  simp only [evE] at h
  refine tA.bnd eR S rfl h.fits fun ρ1 H1 s1 x v g1 eR1 S1 r1 h1 => ?_
  split at h1
  · rename_i hl
    exact ⟨by rw [← r1.length, ← line_eq]; exact hl, OkP.tup (fun ρ' H' v g S r => h1 ρ' H' v g S r) S1 r1⟩
  · exact h1.elim
theorem s_htup {l : E} {es : List Expr} {k : Nat} {pos : Pos} (hl : PA X es (tA C P call Wx l)) : PE X (.Tuple es k pos) (tE C P call Wx (.htup l)) := by
  refine (GN.pe_htup hl).imp fun σ H Q ⟨ρ, s, env, eR, S, h⟩ => ?_
  simp only [evE] at h
  refine tA.bnd eR S rfl h.fits fun ρ1 H1 s1 x v g1 eR1 S1 r1 h1 => ?_
  split at h1
  · rename_i hl
    exact ⟨by rw [← r1.length, ← line_eq]; exact hl, OkP.htup (fun ρ' H' v g S r => h1 ρ' H' v g S r) S1 r1⟩
  · exact h1.elim
theorem s_lst {l : E} {es : List Expr} {pos : Pos} (hl : PA X es (tA C P call Wx l)) : PE X (.List es pos) (tE C P call Wx (.lst l)) := by
  refine (pe_lst hl).imp fun σ H Q ⟨ρ, s, env, eR, S, h⟩ => ?_
  simp only [evE] at h
  refine tA.bnd eR S rfl h.fits fun ρ1 H1 s1 x v g1 eR1 S1 r1 h1 => ?_
  split at h1
  · rename_i hl
    exact ⟨by rw [← r1.length, ← line_eq]; exact hl, OkP.lst (fun ρ' H' v g S r => h1 ρ' H' v g S r) S1 r1⟩
  · exact h1.elim
/-- a new list of the store -/
theorem SR.push {ρ : List Addr} {H : Hp} {s : ST} {p : Addr} {ws : List W} {vs : List V} (S : SR C ρ H s) (hn : H p = none) (r : Reps C ρ H ws vs) :
    Gr ρ H (ρ ++ [p]) (upd H p (.lst vs)) ∧ SR C (ρ ++ [p]) (upd H p (.lst vs)) (s ++ [ws]) ∧ Rep C (ρ ++ [p]) (upd H p (.lst vs)) (.ref s.length) (.ref p) := by
  have g : Gr ρ H (ρ ++ [p]) (upd H p (.lst vs)) := by
    obtain ⟨_, k, l⟩ := Gr.new (ρ := ρ) (o := .lst vs) hn
    exact ⟨⟨[p], rfl, fun q hq => List.mem_singleton.mp hq ▸ Fre.of hn⟩, k, l⟩
  refine ⟨g, ⟨fun q hq => ⟨fun hm => ?_, ?_⟩, tabs_new S.tb hn, by simp [S.len], ?_, fun n xs e => ?_⟩, ?_⟩
  · rcases List.mem_append.mp hm with hm | hm
    · exact (S.xl q hq).1 hm
    · rw [List.mem_singleton.mp hm] at hq
      obtain ⟨_, zs, ez⟩ := S.xl p hq
      rw [hn] at ez; cases ez
  · obtain ⟨_, zs, ez⟩ := S.xl q hq
    exact ⟨zs, by rw [upd_ne (ne_of_none ez hn)]; exact ez⟩
  · rw [List.nodup_append]
    exact ⟨S.nd, by simp, fun a ha b hb => by
      have : b = p := by simpa using hb
      subst this
      intro e; subst e
      exact S.fresh hn ha⟩
  · by_cases hl : n < s.length
    · rw [List.getElem?_append_left hl] at e
      obtain ⟨q, us, e1, e2, r2⟩ := S.at_ n xs e
      refine ⟨q, us, ?_, ?_, Reps.mono g _ _ r2⟩
      · rw [List.getElem?_append_left (by rw [S.len]; exact hl)]; exact e1
      · rw [upd_ne (ne_of_none e2 hn)]; exact e2
    · have hn' : n = s.length := by
        have := (List.getElem?_eq_some_iff.mp e).1
        simp at this
        omega
      subst hn'
      rw [List.getElem?_append_right (Nat.le_refl _)] at e
      simp at e; subst e
      refine ⟨p, vs, ?_, upd_same, Reps.mono g _ _ r⟩
      rw [← S.len, List.getElem?_append_right (Nat.le_refl _)]
      simp
  · simp only [Rep]
    refine ⟨p, ?_, rfl⟩
    rw [← S.len, List.getElem?_append_right (Nat.le_refl _)]
    simp
theorem s_mlst {l : E} {es : List Expr} {pos : Pos} (hl : PA X es (tA C P call Wx l)) : PE X (.List es pos) (tE C P call Wx (.mlst l)) := by
  refine (pe_lst hl).imp fun σ H Q ⟨ρ, s, env, eR, S, h⟩ => ?_
  simp only [evE] at h
  refine tA.bnd eR S rfl h.fits fun ρ1 H1 s1 x v g1 eR1 S1 r1 h1 => ?_
  split at h1
  · rename_i hl
    refine ⟨by rw [← r1.length, ← line_eq]; exact hl, fun p hn => ?_⟩
    obtain ⟨g, S', r'⟩ := S1.push hn r1
    exact h1 _ _ _ g S' r'
  · exact h1.elim
/-! items, slices, calls -/
theorem PE.two {e : Expr} {t t1 t2 : TE} (h1 : PE X e t1) (h2 : PE X e t2) (k : ∀ σ H Q, t σ H Q → t1 σ H Q ∨ t2 σ H Q) : PE X e t := ⟨fun pins s σ H Q I q => by
  rcases k σ H Q q with h | h
  · exact h1.run pins s σ H Q I h
  · exact h2.run pins s σ H Q I h⟩
theorem look_val : ∀ {ks : List (List Nat)} {ws : List W} {kvs : List (Key × V)} {k : List Nat} {w : W} {ρ : List Addr} {H : Hp}, kvs.map (·.1) = ks.map (fun l => Sum.inr (strOf l)) → Reps C ρ H ws (kvs.map (·.2)) → look k ks ws = some w → ∃ v, valV kvs (Sum.inr (strOf k) : Key) = some v ∧ Rep C ρ H w v
  | [], _, _, _, _, _, _, _, _, e => by simp [look] at e
  | _ :: _, [], _, _, _, _, _, _, _, e => by simp [look] at e
  | a :: ks, x :: ws, [], _, _, _, _, h, _, _ => by simp at h
  | a :: ks, x :: ws, (k0, v0) :: kvs, k, w, ρ, H, h, r, e => by
    simp only [List.map_cons, List.cons.injEq] at h
    simp only [List.map_cons] at r
    obtain ⟨v, us, e0, r1, r2⟩ := r.cons'
    cases e0
    simp only [look] at e
    by_cases hk : a = k
    · rw [if_pos hk] at e
      cases e
      subst hk
      exact ⟨v0, valV_pos h.1, r1⟩
    · rw [if_neg hk] at e
      obtain ⟨v, e1, r3⟩ := look_val h.2 r2 e
      refine ⟨v, ?_, r3⟩
      rw [valV_neg (p := (k0, v0)) (fun q => ?_)]
      · exact e1
      · rw [show (k0, v0).1 = k0 from rfl, h.1] at q
        have : strOf a = strOf k := Sum.inr.inj q
        simp only [strOf, Str.mk.injEq] at this
        exact hk (by simpa using congrArg Array.toList this)
def plainIx : Expr → Bool
  | .Slice .. => false
  | _ => true
theorem s_ix {a b : E} {ea eb : Expr} {pos : Pos} (ct : Ct X C P Nn d Wx) (ha : PE X ea (tE C P call Wx a)) (hb : PE X eb (tE C P call Wx b)) (hi : PlainIx eb) (hs : NoSl eb) : PE X (.Subscript ea eb pos) (tE C P call Wx (.ix a b)) := by
  have hu : X.A.units + 1 < cLine := by have := ct.room.units; omega
  refine PE.two (pe_ix (it_all ct.hK) ha hb hi) (pe_dget hu ha hb hs) fun σ H Q ⟨ρ, s, env, eR, S, h⟩ => ?_
  simp only [evE] at h
  cases ex : evE P call a env s with
  | err => unfold G.bnd at h; rw [ex] at h; exact h.elim
  | exc c l s1 =>
    refine .inl ⟨ρ, s, env, eR, S, ?_⟩
    unfold G.bnd at h
    rw [ex] at h ⊢
    exact h
  | ok x0 s0 =>
    by_cases hd : ∃ ks vs, x0 = .dct ks vs
    · obtain ⟨ks, vs, rfl⟩ := hd
      refine .inr ?_
      have h' : ResG C (RepR C) ρ H (G.bnd (evE P call a env) (fun x => match x with | .dct ks vs => G.bnd (evE P call b env) fun y => rd (item (.dct ks vs) y) | _ => fail) s) Q (WE Wx σ) := by
        unfold G.bnd at h ⊢
        rw [ex] at h ⊢
        exact h
      refine tE.bnd eR S rfl h' fun ρ1 H1 s1 x v g1 eR1 S1 r1 h1 => ?_
      cases x <;> try exact h1.elim
      rename_i ks vs
      refine tE.bnd eR1 S1 rfl h1 fun ρ2 H2 s2 y u g2 eR2 S2 r2 h2 => ?_
      obtain ⟨w, e, h3⟩ := h2.rd
      cases y <;> try (simp [item, seqI] at e; done)
      simp only [item] at e
      have r3 := r1.mono g2
      simp only [Rep] at r3
      obtain ⟨p, kvs, rfl, hp, hH, hk, hv⟩ := r3
      obtain ⟨z, e4, r4⟩ := look_val hk hv e
      rw [r2.str.1]
      exact ⟨p, z, rfl, e4 ▸ DGet.k (k := Sum.inr _) hH, h3.here S2 r4⟩
    · refine .inl ?_
      have h' : ResG C (RepR C) ρ H (G.bnd (evE P call a env) (fun x => match x with | .dct ks vs => fail | x => G.bnd (evE P call b env) fun y => rd (item (soft x) y)) s) Q (WE Wx σ) := by
        unfold G.bnd at h ⊢
        rw [ex] at h ⊢
        cases x0 <;> first | exact h | exact (hd ⟨_, _, rfl⟩).elim
      refine tE.bnd eR S rfl h' fun ρ1 H1 s1 x v g1 eR1 S1 r1 h1 => ?_
      have nd : ∀ ks vs, x ≠ .dct ks vs := fun ks vs q => by subst q; exact h1.elim
      have h1' : ResG C (RepR C) ρ1 H1 (G.bnd (evE P call b env) (fun y => rd (item (soft x) y)) s1) Q (WE Wx σ) := by
        cases x <;> first | exact h1 | exact (nd _ _ rfl).elim
      refine tE.bnd eR1 S1 rfl h1' fun ρ2 H2 s2 y u g2 eR2 S2 r2 h2 => ?_
      obtain ⟨w, e, h2⟩ := h2.rd
      exact ⟨ρ2, s2, soft x, y, w, S2, Rep.soft _ _ (r1.mono g2), r2, (by intro ks vs q; cases x <;> simp [soft] at q; exact nd _ _ rfl), e, h2⟩
/-- a bound of a slice -/
def OptR : List Addr → Hp → Option Int → Option Int → Prop := fun _ _ a b => a = b
def tO (C : Cn) (P : Pg) (call : Nat → List W → M W) (Wx : WX) (a : E) : TO := fun σ H Q => ∃ ρ s env, EnvR C ρ H env σ ∧ SR C ρ H s ∧ ResG C OptR ρ H (evO P call a env s) Q (WE Wx σ)
theorem _root_.L2.PO.imp {e : Option Expr} {t t' : TO} (h : PO X e t) (k : ∀ σ H Q, t' σ H Q → t σ H Q) : PO X e t' := ⟨fun pins s σ H Q I q => h.run pins s σ H Q I (k σ H Q q)⟩
theorem s_no : PO X none (tO C P call Wx .no) := by
  refine po_none.imp fun σ H Q ⟨ρ, s, env, eR, S, h⟩ => ?_
  simp only [evO] at h
  exact ResG.here (a := none) (v := none) (s := s) h S rfl
theorem s_some {a : E} {ea : Expr} (ha : PE X ea (tE C P call Wx a)) : PO X (some ea) (tO C P call Wx (.itr a)) := by
  refine (po_some ha).imp fun σ H Q ⟨ρ, s, env, eR, S, h⟩ => ?_
  simp only [evO] at h
  refine tE.bnd eR S rfl h fun ρ1 H1 s1 x v g1 eR1 S1 r1 h1 => ?_
  cases x <;> try exact h1.elim
  rename_i i
  exact ⟨i, r1.int, ResG.here (a := some i) (v := some i) h1 S1 rfl⟩
theorem s_sl {a lo hi : E} {ea : Expr} {l h : Option Expr} {p2 pos : Pos} (ct : Ct X C P Nn d Wx) (ha : PE X ea (tE C P call Wx a)) (hl : PO X l (tO C P call Wx lo)) (hh : PO X h (tO C P call Wx hi)) : PE X (.Subscript ea (.Slice l h none p2) pos) (tE C P call Wx (.sl a lo hi)) := by
  refine (pe_slice (sl_all ct.hK) ha hl hh).imp fun σ H Q ⟨ρ, s, env, eR, S, h⟩ => ?_
  simp only [evE] at h
  refine tE.bnd eR S rfl h fun ρ1 H1 s1 x v g1 eR1 S1 r1 h1 => ?_
  refine ⟨ρ1, s1, env, eR1, S1, (ResG.bnd (Rl := OptR) h1).imp fun l H2 ⟨ρ2, s2, l', g2, S2, q, h2⟩ => ?_⟩
  have q : l' = l := q
  subst q
  refine ⟨ρ2, s2, env, eR1.mono g2, S2, (ResG.bnd (Rl := OptR) h2).imp fun h H3 ⟨ρ3, s3, h', g3, S3, q, h3⟩ => ?_⟩
  have q : h' = h := q
  subst q
  obtain ⟨w, e, h3⟩ := h3.rd
  exact ⟨ρ3, s3, soft x, w, S3, Rep.soft _ _ ((r1.mono g2).mono g3), e, h3⟩
theorem s_slx {a lo hi : E} {k : Int} {ea st : Expr} {ts : TO} {l h : Option Expr} {p2 pos : Pos} (ha : PE X ea (tE C P call Wx a)) (hl : PO X l (tO C P call Wx lo)) (hh : PO X h (tO C P call Wx hi)) (hs : PO X (some st) ts) (hk : ∀ σ H, ts σ H fun o H2 => o = some k ∧ H2 = H) (k0 : k ≠ 0) :
    PE X (.Subscript ea (.Slice l h (some st) p2) pos) (tE C P call Wx (.slx a lo hi k)) := by
  refine (GN.pe_step ha hl hh hs hk k0).imp fun σ H Q ⟨ρ, s, env, eR, S, h⟩ => ?_
  simp only [evE] at h
  refine tE.bnd eR S rfl h fun ρ1 H1 s1 x v g1 eR1 S1 r1 h1 => ?_
  refine ⟨ρ1, s1, env, eR1, S1, (ResG.bnd (Rl := OptR) h1).imp fun l H2 ⟨ρ2, s2, l', g2, S2, q, h2⟩ => ?_⟩
  have q : l' = l := q
  subst q
  refine ⟨ρ2, s2, env, eR1.mono g2, S2, (ResG.bnd (Rl := OptR) h2).imp fun h H3 ⟨ρ3, s3, h', g3, S3, q, h3⟩ => ?_⟩
  have q : h' = h := q
  subst q
  obtain ⟨xs, e, h3⟩ := h3.pureR
  rw [if_neg k0] at h3
  obtain ⟨p, vs, rfl, q, r⟩ := seqL_rep S3 ((r1.mono g2).mono g3) e
  refine ⟨p, vs, rfl, SqL.of q, OkP.lst (fun ρ' H' v g S r => h3 ρ' H' v g S r) S3 ?_⟩
  unfold cutX
  rw [← r.length]
  exact GN.pick_rep r _
theorem s_rev {a : E} {ea : Expr} {k : Nat} {p1 p2 p3 pos : Pos} (ha : PE X ea (tE C P call Wx a)) : PE X (.Subscript ea (.Slice none none (some (.UnaryOp .USub (.Constant (.int 1) k p1) p2)) p3) pos) (tE C P call Wx (.rev a)) := by
  refine (pe_revL ha).imp fun σ H Q ⟨ρ, s, env, eR, S, h⟩ => ?_
  simp only [evE] at h
  refine tE.bnd eR S rfl h fun ρ1 H1 s1 x v g1 eR1 S1 r1 h1 => ?_
  obtain ⟨xs, e, h1⟩ := h1.pureR
  obtain ⟨p, vs, rfl, q, r⟩ := seqL_rep S1 r1 e
  exact ⟨p, vs, rfl, SqL.of q, OkP.lst (fun ρ' H' v g S r => h1 ρ' H' v g S r) S1 r.rev⟩
theorem s_call {n : Nat} {l : E} {x : Str} {e : Expr} {es : List Expr} {p pos : Pos} (ct : Ct X C P Nn d Wx) (hn : Nn.fns[n]? = some x) (hg : Gl X x) (hdb : (x == ("__debug__" : Str)) = false) (hl : PA X (e :: es) (tA C P (callD P d) Wx l))
    (he : starEach (e :: es) X.env = (false, eval e X.env) :: starEach es X.env) (hpl : (backTo pos (starEach es X.env)).any (·.1) = false) : PE X (.Call (.Name x p) (e :: es) [] pos) (tE C P (callD P d) Wx (.call n l)) := by
  obtain ⟨f, fd, ps, e1, e2, e3, e4, F⟩ := ct.fn d (Nat.le_refl d) n x hn
  refine (pe_callS F ct.room hg e2 e3 e4 (passAt ct.tk) hl hdb he hpl).imp fun σ H Q ⟨ρ, s, env, eR, S, h⟩ => ?_
  simp only [evE] at h
  refine tA.bnd eR S rfl h fun ρ1 H1 s1 x v g1 eR1 S1 r1 h1 => ?_
  exact ⟨C.xi, ρ1, s1, x, S1, r1, h1⟩
def biN : Bi → Option (Str × Bool)
  | .len => some ("len", true) | .abs => some ("abs", true) | .int => some ("int", false) | .list => some ("list", false) | .tuple => some ("tuple", false)
  | .htuple => some ("tuple", false) | .str => some ("str", false) | .sorted => some ("sorted", true) | .dict => some ("dict", false)
  | .max => some ("max", true) | .min => some ("min", true) | .sum => some ("sum", true) | .all => some ("all", true) | .any => some ("any", true) | .isi => some ("isinstance", true)
  | _ => none
theorem s_bi {b : Bi} {l : E} {x : Str} {k : Bool} {e : Expr} {es : List Expr} {p pos : Pos} (ct : Ct X C P Nn d Wx) (hb : biN b = some (x, k)) (hg : Gl X x) (hl : PA X (e :: es) (tA C P call Wx l))
    (he : starEach (e :: es) X.env = (false, eval e X.env) :: starEach es X.env) (hpl : (backTo pos (starEach es X.env)).any (·.1) = false) : PE X (.Call (.Name x p) (e :: es) [] pos) (tE C P call Wx (.bi b l)) := by
  have imp : b ≠ .mlist → ∀ σ H Q, tE C P call Wx (.bi b l) σ H Q → tA C P call Wx l σ H fun vs H1 => rBi C b vs H1 Q := fun hb σ H Q ⟨ρ, s, env, eR, S, h⟩ => by
    have h' : ResG C (RepR C) ρ H (G.bnd (evA P call l env) (fun xs => rd (biop b xs)) s) Q (WE Wx σ) := by
      cases b <;> first | (simp only [evE] at h; exact h) | exact (hb rfl).elim
    refine tA.bnd eR S rfl h' fun ρ1 H1 s1 x v g1 eR1 S1 r1 h1 => ?_
    obtain ⟨w, e, h1⟩ := h1.rd
    exact ⟨ρ1, s1, x, w, S1, r1, e, h1⟩
  cases b <;> simp only [biN, Option.some.injEq, Prod.mk.injEq, reduceCtorEq] at hb <;> obtain ⟨rfl, rfl⟩ := hb
  · exact (pe_callB (cb_len ct.hK) hg (ct.blt _ (by decide +kernel)) boot_len hl (by decide +kernel) (by decide +kernel) he hpl).imp (imp (by decide))
  · exact (pe_callB cb_abs hg (ct.blt _ (by decide +kernel)) (by decide +kernel) hl (by decide +kernel) (by decide +kernel) he hpl).imp (imp (by decide))
  · exact (pe_callTy cb_int hg (ct.blt _ (by decide +kernel)) (by decide +kernel) hl (by decide +kernel) (by decide +kernel) he hpl).imp (imp (by decide))
  · exact (pe_callTy cb_str hg (ct.blt _ (by decide +kernel)) (by decide +kernel) hl (by decide +kernel) (by decide +kernel) he hpl).imp (imp (by decide))
  · exact (pe_callTy (cb_list ct.hK) hg (ct.blt _ (by decide +kernel)) (by decide +kernel) hl (by decide +kernel) (by decide +kernel) he hpl).imp (imp (by decide))
  · exact (pe_callTy (cb_tuple ct.hK) hg (ct.blt _ (by decide +kernel)) (by decide +kernel) hl (by decide +kernel) (by decide +kernel) he hpl).imp (imp (by decide))
  · exact (pe_callTy (cb_dict ct.hK ct.calm) hg (ct.blt _ (by decide +kernel)) (by decide +kernel) hl (by decide +kernel) (by decide +kernel) he hpl).imp (imp (by decide))
  · exact (pe_callB (cb_max ct.hK ct.calm ct.room.units) hg (ct.blt _ (by decide +kernel)) (by decide +kernel) hl (by decide +kernel) (by decide +kernel) he hpl).imp (imp (by decide))
  · exact (pe_callB (cb_min ct.hK ct.calm ct.room.units) hg (ct.blt _ (by decide +kernel)) (by decide +kernel) hl (by decide +kernel) (by decide +kernel) he hpl).imp (imp (by decide))
  · exact (pe_callB (cb_sum ct.calm) hg (ct.blt _ (by decide +kernel)) (by decide +kernel) hl (by decide +kernel) (by decide +kernel) he hpl).imp (imp (by decide))
  · exact (pe_callB (cb_all ct.calm) hg (ct.blt _ (by decide +kernel)) (by decide +kernel) hl (by decide +kernel) (by decide +kernel) he hpl).imp (imp (by decide))
  · exact (pe_callB (cb_any ct.calm) hg (ct.blt _ (by decide +kernel)) (by decide +kernel) hl (by decide +kernel) (by decide +kernel) he hpl).imp (imp (by decide))
  · exact (pe_callB cb_sorted hg (ct.blt _ (by decide +kernel)) (by decide +kernel) hl (by decide +kernel) (by decide +kernel) he hpl).imp (imp (by decide))
  · exact (pe_callB (cb_isi ct.hK) hg (ct.blt _ (by decide +kernel)) (by decide +kernel) hl (by decide +kernel) (by decide +kernel) he hpl).imp (imp (by decide))
  · exact (pe_callTy cb_htuple hg (ct.blt _ (by decide +kernel)) (by decide +kernel) hl (by decide +kernel) (by decide +kernel) he hpl).imp (imp (by decide))
theorem s_lenset {a : E} {ea : Expr} {p p2 q pos : Pos} (ct : Ct X C P Nn d Wx) (g1 : Gl X "len") (g2 : Gl X "set") (ha : PE X ea (tE C P call Wx a)) (hs : starEach [ea] X.env = (false, eval ea X.env) :: starEach [] X.env) :
    PE X (.Call (.Name "len" p) [.Call (.Name "set" p2) [ea] [] q] [] pos) (tE C P call Wx (.lens a)) := by
  refine (GN.pe_unlike ct.calm g1 (ct.blt _ (by decide +kernel)) g2 (ct.blt _ (by decide +kernel)) ha hs).imp fun σ H Q ⟨ρ, s, env, eR, S, h⟩ => ?_
  have h' : ResG C (RepR C) ρ H (G.bnd (evE P call a env) (fun x => rd (biop .lenset [x])) s) Q (WE Wx σ) := by
    simp only [evE] at h
    exact h
  refine tE.bnd eR S rfl h' fun ρ1 H1 s1 x v g1 eR1 S1 r1 h1 => ?_
  obtain ⟨w, e, h1⟩ := h1.rd
  simp only [biop] at e
  unfold bUnl at e
  simp only [Option.bind_eq_some_iff] at e
  obtain ⟨xs, e1, ns, e2, e3⟩ := e
  split at e3
  · rename_i few
    cases e3
    obtain ⟨l, vs, rfl, hs, r⟩ := seqI_rep S1 r1 e1
    obtain ⟨h2, h3⟩ := r.strs e2
    subst h2
    refine ⟨l, ns.map strOf, rfl, ct.hK ▸ hs, by rw [List.length_map]; exact few, ?_⟩
    rw [show GN.unlike [] (ns.map strOf) = unl [] ns from GN.unlike_is ns []]
    exact h1.here S1 Rep.mkI
  · cases e3
theorem reps_zip {ρ : List Addr} {H : Hp} : ∀ {xs ys : List W} {vs us : List V} {as : List Addr}, Reps C ρ H xs vs → Reps C ρ H ys us → as.length = min vs.length us.length → (∀ t ∈ as, Out C ρ t) →
    (∀ (j : Nat) (t : Addr), as[j]? = some t → ∃ x y, vs[j]? = some x ∧ us[j]? = some y ∧ H t = some (.tup [x, y])) → Reps C ρ H (zipW xs ys) (as.map V.ref) := by
  intro xs
  induction xs with
  | nil =>
    intro ys vs us as r1 r2 hl _ _
    have := r1.nil'; subst this
    simp only [List.length_nil, Nat.zero_min, List.length_eq_zero_iff] at hl
    subst hl
    simp only [zipW, List.map_nil, Reps]
  | cons x xs ih =>
    intro ys vs us as r1 r2 hl ho h
    obtain ⟨v, vs', rfl, p1, p2⟩ := r1.cons'
    cases ys with
    | nil =>
      have := r2.nil'; subst this
      simp only [List.length_nil, Nat.min_zero, List.length_eq_zero_iff] at hl
      subst hl
      simp only [zipW, List.map_nil, Reps]
    | cons y ys =>
      obtain ⟨u, us', rfl, q1, q2⟩ := r2.cons'
      cases as with
      | nil => simp at hl
      | cons a as =>
        obtain ⟨x1, y1, e1, e2, e3⟩ := h 0 a rfl
        simp only [List.getElem?_cons_zero, Option.some.injEq] at e1 e2
        subst e1; subst e2
        simp only [zipW, List.map_cons]
        refine Reps.mk ?_ (ih p2 q2 (by simp only [List.length_cons] at hl; omega) (fun t ht => ho t (List.mem_cons_of_mem _ ht)) fun j t e => ?_)
        · simp only [Rep]
          exact ⟨a, [v, u], rfl, .inl ⟨ho a List.mem_cons_self, .inl e3⟩, Reps.mk p1 (Reps.one q1)⟩
        · obtain ⟨x2, y2, f1, f2, f3⟩ := h (j + 1) t (by simpa using e)
          exact ⟨x2, y2, by simpa using f1, by simpa using f2, f3⟩
theorem s_lzip {a b : E} {ea eb : Expr} {p p2 q pos : Pos} (ct : Ct X C P Nn d Wx) (g1 : Gl X "list") (g2 : Gl X "zip") (ha : PE X ea (tE C P call Wx a)) (hb : PE X eb (tE C P call Wx b)) (hs : starEach [ea, eb] X.env = (false, eval ea X.env) :: starEach [eb] X.env)
    (hs2 : starEach [eb] X.env = (false, eval eb X.env) :: starEach [] X.env) (hpl : (backTo q (starEach [eb] X.env)).any (·.1) = false) : PE X (.Call (.Name "list" p) [.Call (.Name "zip" p2) [ea, eb] [] q] [] pos) (tE C P call Wx (.lzip a b)) := by
  have hl : PA X [ea, eb] (tA C P call Wx (.cons a (.cons b .nil))) := s_cons ha (s_cons hb s_nil hs2) hs
  refine (GN.pe_zipL ct.calm g1 (ct.blt _ (by decide +kernel)) (by decide +kernel) g2 (ct.blt _ (by decide +kernel)) hl hs hpl).imp fun σ H Q ⟨ρ, s, env, eR, S, h⟩ => ?_
  have h' : ResG C (RepR C) ρ H (G.bnd (evA P call (.cons a (.cons b .nil)) env) (fun xs => match xs with | [x, y] => (match soft x, soft y with | .tup xs, .tup ys => ret (.lst (zipW xs ys)) | _, _ => fail) | _ => fail) s) Q (WE Wx σ) := by
    simp only [evE] at h
    simp only [evA]
    unfold G.bnd ret at h ⊢
    cases e : evE P call a env s with
    | ok x s1 =>
      simp only [e] at h ⊢
      cases e2 : evE P call b env s1 <;> simp only [e2] at h ⊢ <;> exact h
    | exc c l s1 => simp only [e] at h ⊢; exact h
    | err => simp only [e] at h
             exact h.elim
  refine tA.bnd eR S rfl h' fun ρ1 H1 s1 x v g1 eR1 S1 r1 h1 => ?_
  split at h1
  · rename_i x y
    have two : ∃ xs ys, soft x = .tup xs ∧ soft y = .tup ys ∧ ResG C (RepR C) ρ1 H1 (ret (.lst (zipW xs ys)) s1) Q (WE Wx σ) := by
      revert h1
      generalize soft x = x'
      generalize soft y = y'
      intro h1
      cases x' <;> cases y' <;> first | exact h1.elim | exact ⟨_, _, rfl, rfl, h1⟩
    obtain ⟨xs, ys, ex, ey, h1⟩ := two
    · obtain ⟨v1, vv, rfl, p1, p2⟩ := r1.cons'
      obtain ⟨v2, rfl, p3⟩ := rep1 p2
      have p1 := Rep.soft _ _ p1
      have p3 := Rep.soft _ _ p3
      rw [ex] at p1; rw [ey] at p3
      obtain ⟨pa, vs, rfl, qa, ra⟩ := p1.tup
      obtain ⟨pb, us, rfl, qb, rb⟩ := p3.tup
      refine ⟨pa, pb, vs, us, rfl, ct.hK ▸ qa.sq, ct.hK ▸ qb.sq, fun H2 D as kp nD nt hD ln at_ => ?_⟩
      have gr : Gr ρ1 H1 ρ1 H2 := ⟨⟨[], by simp, fun _ h => nomatch h⟩, fun p o _ h _ => kp p o h, fun p f o e => f o (kp p o e)⟩
      have S2 : SR C ρ1 H2 s1 := S1.mono gr (fun p hp => by obtain ⟨vs, e⟩ := S1.some hp; rw [e, kp p _ e]) (S1.tb.ext fun b u e => kp b u e)
      refine h1 ρ1 H2 _ gr S2 ?_
      show Rep C ρ1 H2 (.lst (zipW xs ys)) (.ref D)
      simp only [Rep]
      exact ⟨D, _, rfl, S1.fresh' nD, hD, reps_zip (ra.mono gr) (rb.mono gr) ln (fun t ht => S1.fresh' (nt t ht)) at_⟩
  · exact h1.elim
theorem s_mlist {l : E} {e : Expr} {es : List Expr} {p pos : Pos} (ct : Ct X C P Nn d Wx) (hg : Gl X "list") (hl : PA X (e :: es) (tA C P call Wx l))
    (he : starEach (e :: es) X.env = (false, eval e X.env) :: starEach es X.env) (hpl : (backTo pos (starEach es X.env)).any (·.1) = false) : PE X (.Call (.Name "list" p) (e :: es) [] pos) (tE C P call Wx (.bi .mlist l)) := by
  refine (pe_callTy (call_list_of) hg (ct.blt _ (by decide +kernel)) (by decide +kernel) hl (by decide +kernel) (by decide +kernel) he hpl).imp fun σ H Q ⟨ρ, s, env, eR, S, h⟩ => ?_
  simp only [evE] at h
  refine tA.bnd eR S rfl h fun ρ1 H1 s1 x v g1 eR1 S1 r1 h1 => ?_
  obtain ⟨w, e, h2⟩ := h1.pureR
  obtain ⟨a, rfl⟩ := biop_list1 e
  obtain ⟨u, rfl, r3⟩ := rep1 r1
  obtain ⟨ws, p, vs, rfl, rfl, hs, r2⟩ := list_of S1 r3 e
  refine ⟨p, vs, rfl, ct.hK ▸ hs, fun q hn => ?_⟩
  obtain ⟨g, S', r'⟩ := S1.push hn r2
  exact h2 _ _ _ g S' r'
/-! methods -/
/-- a list of the store is written -/
theorem SR.write {ρ : List Addr} {H : Hp} {s : ST} {n : Nat} {p : Addr} {ws us : List W} {vs xs : List V} (S : SR C ρ H s) (e : s[n]? = Option.some ws) (ep : ρ[n]? = Option.some p) (hp : H p = Option.some (.lst vs)) (r : Reps C ρ H us xs) :
    Gr ρ H ρ (upd H p (.lst xs)) ∧ SR C ρ (upd H p (.lst xs)) (s.set n us) := by
  have hm : p ∈ ρ := List.mem_of_getElem? ep
  have g : Gr ρ H ρ (upd H p (.lst xs)) := by
    refine ⟨⟨[], by simp, fun _ h => nomatch h⟩, fun q u hq h _ => ?_, fun q h => ?_⟩
    · have : q ≠ p := fun e => hq (e ▸ hm)
      rw [upd_ne this]; exact h
    · by_cases e : q = p
      · subst e
        obtain ⟨ps, z⟩ := h _ upd_same
        cases z
      · exact fun u hu => h u (by rw [upd_ne e]; exact hu)
  refine ⟨g, ⟨fun q hq => by
    obtain ⟨h1, zs, h2⟩ := S.xl q hq
    exact ⟨h1, zs, by rw [upd_ne (fun (z : q = p) => h1 (by rw [z]; exact hm))]; exact h2⟩, tabs_wr S.tb hp, by simp [S.len], S.nd, fun m ys e2 => ?_⟩⟩
  by_cases hmn : n = m
  · subst hmn
    rw [List.getElem?_set_self (List.getElem?_eq_some_iff.mp e).1] at e2
    cases e2
    exact ⟨p, xs, ep, upd_same, Reps.mono g _ _ r⟩
  · rw [List.getElem?_set_ne hmn] at e2
    obtain ⟨q, zs, a1, a2, a3⟩ := S.at_ m ys e2
    refine ⟨q, zs, a1, ?_, Reps.mono g _ _ a3⟩
    have : q ≠ p := fun e => by
      subst e
      obtain ⟨h1, e1⟩ := List.getElem?_eq_some_iff.mp a1
      obtain ⟨h2, e2⟩ := List.getElem?_eq_some_iff.mp ep
      exact hmn ((List.getElem_inj S.nd).mp (e2.trans e1.symm))
    rw [upd_ne this]; exact a2
theorem Rep.ref {ρ : List Addr} {H : Hp} {n : Nat} {v : V} (r : Rep C ρ H (.ref n) v) : ∃ p, ρ[n]? = some p ∧ v = .ref p := by simpa only [Rep] using r
theorem reps2 {ρ : List Addr} {H : Hp} {vs : List V} (r : Reps C ρ H [] vs) : vs = [] := r.nil'
theorem i_ref {m : Me} {o l : E} {σ : L2.St} {H : Hp} {Q : VK} {r : V → List V → Hp → VK → Prop} (h : tE C P call Wx (.meth m o l) σ H Q)
    (hm : m.isL = true) (k : ∀ n ρ2 H2 s2 p ws u, SR C ρ2 H2 s2 → ρ2[n]? = some p → Reps C ρ2 H2 ws u → ResG C (RepR C) ρ2 H2 (meL m n ws s2) Q (WE Wx σ) → r (.ref p) u H2 Q) : tBM X.K "list" r (tE C P call Wx o) (tA C P call Wx l) σ H Q := by
  obtain ⟨ρ, s, env, eR, S, h⟩ := h
  simp only [evE, hm] at h
  refine tE.bnd eR S rfl h fun ρ1 H1 s1 x v g1 eR1 S1 r1 h1 => ?_
  cases x <;> try exact h1.elim
  rename_i n
  obtain ⟨p, ep, rfl⟩ := r1.ref
  obtain ⟨vs0, hp0⟩ := S1.some (List.mem_of_getElem? ep)
  refine ⟨.inl ⟨rfl, vs0, SqL.of hp0⟩, ?_⟩
  refine tA.bnd eR1 S1 rfl h1 fun ρ2 H2 s2 y u g2 eR2 S2 r2 h2 => ?_
  exact k n ρ2 H2 s2 p y u S2 (g2.get ep) r2 h2
/-- o.append(x) -/
theorem s_append {o l : E} {eo e1 : Expr} {apos cpos : Pos} (ho : PE X eo (tE C P call Wx o)) (hl : PA X [e1] (tA C P call Wx l)) (hbase : attributeBase eo "append" X.env (eval eo X.env) = eval eo X.env)
    (hfew : ((backTo cpos (starEach [e1] X.env)).all (fun x => !x.1) && (backToKw cpos (keywordEach [] X.env)).all (fun x => x.1.isSome) && decide ([e1].length + ([] : List Keyword).length + (if ([] : List Keyword).isEmpty then 0 else 1) < 30)) = true)
    (hline : (apos.endLine == cpos.line) = true) (hs : starEach [e1] X.env = (false, eval e1 X.env) :: starEach [] X.env) :
    PE X (.Call (.Attribute eo "append" apos) [e1] [] cpos) (tE C P call Wx (.meth .append o l)) := by
  refine (pe_bm PySem.F.plainAttrs_list PySem.F.slot_list_append PySem.F.type_list_append mt_append ho hl hbase hfew hline hs rfl).imp fun σ H Q h => ?_
  refine i_ref h rfl fun n ρ2 H2 s2 p ws u S2 ep r2 h2 => ?_
  rcases ws with _ | ⟨w, _ | ⟨w2, t⟩⟩
  · exact h2.elim
  · obtain ⟨z, rfl, r3⟩ := rep1 r2
    simp only [meL] at h2
    unfold mApp at h2
    split at h2
    · rename_i ws es
      obtain ⟨p', vs, a1, a2, a3⟩ := S2.at_ n ws es
      rw [ep] at a1; cases a1
      split at h2
      · rename_i hlt
        obtain ⟨g, S'⟩ := S2.write es ep a2 (a3.app (Reps.one r3))
        exact ⟨p, vs, z, rfl, rfl, a2, by rw [← a3.length, ← line_eq]; exact hlt, h2 _ _ _ g S' Rep.mkN⟩
      · exact h2.elim
    · exact h2.elim
  · exact h2.elim
/-- o.pop(i) -/
theorem s_pop {o l : E} {eo e1 : Expr} {apos cpos : Pos} (ho : PE X eo (tE C P call Wx o)) (hl : PA X [e1] (tA C P call Wx l)) (hbase : attributeBase eo "pop" X.env (eval eo X.env) = eval eo X.env)
    (hfew : ((backTo cpos (starEach [e1] X.env)).all (fun x => !x.1) && (backToKw cpos (keywordEach [] X.env)).all (fun x => x.1.isSome) && decide ([e1].length + ([] : List Keyword).length + (if ([] : List Keyword).isEmpty then 0 else 1) < 30)) = true)
    (hline : (apos.endLine == cpos.line) = true) (hs : starEach [e1] X.env = (false, eval e1 X.env) :: starEach [] X.env) :
    PE X (.Call (.Attribute eo "pop" apos) [e1] [] cpos) (tE C P call Wx (.meth .pop o l)) := by
  refine (pe_bm PySem.F.plainAttrs_list PySem.F.slot_list_pop PySem.F.type_list_pop mt_popAt ho hl hbase hfew hline hs rfl).imp fun σ H Q h => ?_
  refine i_ref h rfl fun n ρ2 H2 s2 p ws u S2 ep r2 h2 => ?_
  rcases ws with _ | ⟨w, _ | ⟨w2, t⟩⟩
  · exact h2.elim
  · cases w <;> try exact h2.elim
    rename_i i
    obtain ⟨z, rfl, r3⟩ := rep1 r2
    have := r3.int; subst this
    simp only [meL] at h2
    unfold mPop at h2
    split at h2
    · rename_i ws es
      obtain ⟨p', vs, a1, a2, a3⟩ := S2.at_ n ws es
      rw [ep] at a1; cases a1
      split at h2
      · rename_i j ej
        split at h2
        · rename_i y ey
          split at h2
          · rename_i hr
            obtain ⟨z, e4, r4⟩ := a3.get ey
            obtain ⟨g, S'⟩ := S2.write es ep a2 (a3.erase j)
            have e5 : ixN vs.length i = some j := by rw [ix_eq, ← a3.length]; exact ej
            exact ⟨p, vs, i, j, z, rfl, rfl, a2, by omega, by omega, (ixN_seq e5).1, e4, h2 _ _ _ g S' (r4.mono g)⟩
          · exact h2.elim
        · exact h2.elim
      · exact h2.elim
    · exact h2.elim
  · cases w <;> exact h2.elim
theorem txt_join (a : List Nat) (ns : List (List Nat)) : Txt.join (strOf a) (ns.map strOf) = strOf (joinS a ns) := by
  rw [TL.join_eq]
  induction ns with
  | nil => rfl
  | cons p r ih =>
    cases r with
    | nil => rfl
    | cons q r =>
      show strOf p ++ strOf a ++ Str.join (strOf a) ((q :: r).map strOf) = strOf (p ++ (a ++ joinS a (q :: r)))
      rw [ih, strOf_app, strOf_app, List.append_assoc]
end
end G

set_option Elab.async false
set_option linter.all false
set_option autoImplicit false
set_option maxRecDepth 100000
set_option maxHeartbeats 2000000
/-! G7: what is walked, comprehensions, targets. -/
namespace G
open PySem PySem.Spec PyProof.Rows L2
section
variable {X : Cx} {C : Cn} {P : Pg} {Nn : Nm} {d : Nat} {Wx : WX} {call : Nat → List W → M W}
/-- o.join(x) -/
theorem s_join {o l : E} {eo e1 : Expr} {apos cpos : Pos} (ct : Ct X C P Nn d Wx) (ho : PE X eo (tE C P call Wx o)) (hl : PE X e1 (tE C P call Wx l)) (hbase : attributeBase eo "join" X.env (eval eo X.env) = eval eo X.env)
    (hline : (apos.endLine == cpos.line) = true) (hs : starEach [e1] X.env = [(false, eval e1 X.env)]) :
    PE X (.Call (.Attribute eo "join" apos) [e1] [] cpos) (tE C P call Wx (.meth .join o (.cons l .nil))) := by
  refine (pe_join ho hl hs hbase hline).imp fun σ H Q ⟨ρ, s, env, eR, S, h⟩ => ?_
  simp only [evE, Me.isL] at h
  refine tE.bnd eR S rfl h fun ρ1 H1 s1 x v g1 eR1 S1 r1 h1 => ?_
  cases x <;> try exact h1.elim
  rename_i a
  simp only [evA] at h1
  rw [bnd_assoc] at h1
  refine ⟨⟨_, r1.str.1⟩, ?_⟩
  refine tE.bnd eR1 S1 rfl h1 fun ρ2 H2 s2 y u g2 eR2 S2 r2 h2 => ?_
  have h3 : ResG C (RepR C) ρ2 H2 (G.rd (fun s => meJoin a s [y]) s2) Q (WE Wx σ) := h2
  obtain ⟨w, e, h3⟩ := h3.rd
  simp only [meJoin, Option.bind_eq_some_iff] at e
  obtain ⟨xs, e1, ns, e2, e⟩ := e
  split at e
  · rename_i hl
    cases e
    obtain ⟨p, vs, rfl, q, r⟩ := seqI_rep S2 r2 e1
    obtain ⟨f1, f2⟩ := r.strs e2
    subst f1
    have oS : okS (joinS a ns) := by
      have oa := r1.str.2
      clear hl e1 e2 r h3 q
      induction ns with
      | nil => exact fun _ h => nomatch h
      | cons p r ih =>
        cases r with
        | nil => exact f2 p List.mem_cons_self
        | cons q r => exact okS_app (f2 p List.mem_cons_self) (okS_app oa (ih fun l hl => f2 l (List.mem_cons_of_mem _ hl)))
    refine ⟨strOf a, p, ns.map strOf, r1.str.1, rfl, ct.hK ▸ q, ?_, ?_⟩
    · have e3 : ((ns.map strOf).map (·.length)).sum = (ns.map (·.length)).sum := by
        rw [List.map_map]
        exact congrArg List.sum (List.map_congr_left fun l _ => strOf_len l)
      rw [e3, List.length_map, strOf_len]
      exact hl
    · rw [txt_join]
      exact h3.here S2 (Rep.mkS oS)
  · cases e
theorem s_lstrip {o l : E} {eo e1 : Expr} {apos cpos : Pos} (ho : PE X eo (tE C P call Wx o)) (hl : PA X [e1] (tA C P call Wx l)) (hbase : attributeBase eo "lstrip" X.env (eval eo X.env) = eval eo X.env)
    (hfew : ((backTo cpos (starEach [e1] X.env)).all (fun x => !x.1) && (backToKw cpos (keywordEach [] X.env)).all (fun x => x.1.isSome) && decide ([e1].length + ([] : List Keyword).length + (if ([] : List Keyword).isEmpty then 0 else 1) < 30)) = true)
    (hline : (apos.endLine == cpos.line) = true) (hs : starEach [e1] X.env = (false, eval e1 X.env) :: starEach [] X.env) :
    PE X (.Call (.Attribute eo "lstrip" apos) [e1] [] cpos) (tE C P call Wx (.meth .lstrip o l)) := by
  refine (pe_bm PySem.F.plainAttrs_str PySem.F.slot_str_lstrip PySem.F.type_str_lstrip mt_lstripChars ho hl hbase hfew hline hs rfl).imp fun σ H Q ⟨ρ, s, env, eR, S, h⟩ => ?_
  simp only [evE, Me.isL] at h
  refine tE.bnd eR S rfl h fun ρ1 H1 s1 x v g1 eR1 S1 r1 h1 => ?_
  cases x <;> try exact h1.elim
  rename_i a
  refine ⟨by rw [r1.str.1]; rfl, ?_⟩
  refine tA.bnd eR1 S1 rfl h1 fun ρ2 H2 s2 ws vs g2 eR2 S2 r2 h2 => ?_
  have h3 : ResG C (RepR C) ρ2 H2 (G.rd (fun _ => meStrip a ws) s2) Q (WE Wx σ) := h2
  obtain ⟨w, e, h3⟩ := h3.rd
  unfold meStrip at e
  split at e
  · rename_i b
    obtain ⟨z, rfl, r3⟩ := rep1 r2
    split at e
    · rename_i hl
      cases e
      refine ⟨strOf a, strOf b, r1.str.1, by rw [r3.str.1], by rw [strOf_len, ← line_eq]; exact hl, ?_⟩
      rw [lstrip_eq]
      exact h3.here S2 (Rep.mkS fun c hc => r1.str.2 c (dropWhile_mem hc))
    · cases e
  · cases e
/-! ### what is walked -/
def srcAt : Src → Nat → ST → Option (Option W)
  | .row xs, i, _ => some xs[i]?
  | .live n, i, s => liveAt n i s
  | .liveE n, i, s => (liveAt n i s).map fun o => o.map fun x => .tup [.int i, x]
def Lk (C : Cn) (ρ0 : List Addr) (H0 : Hp) (src : Src) (J : It) : Prop :=
  ∀ ρ H s i o, Gr ρ0 H0 ρ H → SR C ρ H s → srcAt src i s = some o → match o with
    | some x => J.go i H ∧ ∀ v H', J.yld i H v H' → Gr ρ H ρ H' ∧ SR C ρ H' s ∧ Rep C ρ H' x v
    | none => J.stop i H
/-- .. also while a list is made -/
def LkA (C : Cn) : List Addr → Hp → Src → It → Prop := fun ρ H src J => Lk C ρ H src J ∧ ∀ D, Fre H D → Lk (C.hide D) ρ H src J
theorem Lk.mono {ρ ρ' : List Addr} {H H' : Hp} {src : Src} {J : It} (h : Lk C ρ H src J) (g : Gr ρ H ρ' H') : Lk C ρ' H' src J := fun ρ2 H2 s i o g2 => h ρ2 H2 s i o (g.trans g2)
theorem LkA.mono {ρ ρ' : List Addr} {H H' : Hp} {src : Src} {J : It} (h : LkA C ρ H src J) (g : Gr ρ H ρ' H') : LkA C ρ' H' src J := ⟨h.1.mono g, fun D hD => (h.2 D (g.live D hD)).mono g⟩
theorem lk_rowL {ρ : List Addr} {H : Hp} {xs : List W} {p : Addr} {vs : List V} (ho : Out C ρ p) (hp : H p = some (.lst vs)) (r : Reps C ρ H xs vs) : LkA C ρ H (.row xs) (Itl X.K p) := by
  have main : ∀ C : Cn, Out C ρ p → Reps C ρ H xs vs → Lk C ρ H (.row xs) (Itl X.K p) := fun C ho r ρ2 H2 s i o g S e => by
    simp only [srcAt, Option.some.injEq] at e
    have hp2 := g.keep p _ ho.1 hp (fun _ q => by cases q)
    subst e
    cases ex : xs[i]? with
    | none =>
      refine ⟨vs, SqL.of hp2, ?_⟩
      rw [← r.length]
      exact List.getElem?_eq_none_iff.mp ex
    | some x =>
      obtain ⟨v, e1, r1⟩ := r.get ex
      refine ⟨⟨vs, v, SqL.of hp2, e1⟩, fun u H3 ⟨e3, hy⟩ => ?_⟩
      subst e3
      have := hy vs (SqL.of hp2)
      rw [e1] at this
      cases this
      exact ⟨Gr.refl, S, r1.mono g⟩
  exact ⟨main C ho r, fun D hD => main _ (ho.hide hD hp) (Reps.hide hD _ _ r)⟩
theorem lk_rowT {ρ : List Addr} {H : Hp} {xs : List W} {p : Addr} {vs : List V} (hX : X.K = C.K) (ho : RT C ρ H p vs) (r : Reps C ρ H xs vs) : LkA C ρ H (.row xs) (Itt X.K p) := by
  have main : ∀ C : Cn, X.K = C.K → RT C ρ H p vs → Reps C ρ H xs vs → (∀ ρ2 H2 s ys, Gr ρ H ρ2 H2 → SR C ρ2 H2 s → SqT X.K H2 p vs → SqT X.K H2 p ys → True) → Lk C ρ H (.row xs) (Itt X.K p) := fun C hX ho r _ ρ2 H2 s i o g S e => by
    simp only [srcAt, Option.some.injEq] at e
    have hp2 : SqT X.K H2 p vs := hX ▸ (ho.mono g).sq
    subst e
    cases ex : xs[i]? with
    | none =>
      refine ⟨vs, hp2, ?_⟩
      rw [← r.length]
      exact List.getElem?_eq_none_iff.mp ex
    | some x =>
      obtain ⟨v, e1, r1⟩ := r.get ex
      refine ⟨⟨vs, v, hp2, e1⟩, fun u H3 ⟨e3, hy⟩ => ?_⟩
      subst e3
      have := hy vs hp2
      rw [e1] at this
      cases this
      exact ⟨Gr.refl, S, r1.mono g⟩
  refine ⟨main C hX ho r fun _ _ _ _ _ _ _ _ => trivial, fun D hD => main _ hX ?_ (Reps.hide hD _ _ r) fun _ _ _ _ _ _ _ _ => trivial⟩
  rcases ho with ⟨o, q⟩ | q
  · obtain ⟨u, hu, hn⟩ := Rd.get q
    exact .inl ⟨o.hide hD hu hn, q⟩
  · exact .inr q
theorem lk_rowS {ρ : List Addr} {H : Hp} {l : List Nat} (ho : okS l) : LkA C ρ H (.row (l.map fun c => .str [c])) (Its (strOf l)) := by
  have main : ∀ C : Cn, Lk C ρ H (.row (l.map fun c => .str [c])) (Its (strOf l)) := fun C ρ2 H2 s i o g S e => by
    simp only [srcAt, Option.some.injEq, List.getElem?_map] at e
    subst e
    have hsz : (strOf l).cps.size = l.length := by simp [strOf]
    cases ex : l[i]? with
    | none =>
      show (strOf l).cps.size ≤ i
      rw [hsz]
      exact List.getElem?_eq_none_iff.mp ex
    | some c =>
      have hi := (List.getElem?_eq_some_iff.mp ex).1
      refine ⟨by show i < (strOf l).cps.size; rw [hsz]; exact hi, fun u H3 ⟨e3, c', e4, e5⟩ => ?_⟩
      subst e3; subst e5
      have : c' = c := by
        have e6 : l[i]? = some c' := by simpa [strOf] using e4
        rw [ex] at e6; cases e6; rfl
      subst this
      exact ⟨Gr.refl, S, Rep.mkS (l := [c']) fun d hd => by
        rw [List.mem_singleton.mp hd]; exact ho _ (List.mem_of_getElem? ex)⟩
  exact ⟨main C, fun D _ => main _⟩
theorem rngW_get : ∀ (n : Nat) (lo : Int) (i : Nat), (rngW lo n)[i]? = if i < n then some (W.int (lo + i)) else none
  | 0, lo, i => by simp [rngW]
  | n + 1, lo, 0 => by simp [rngW]
  | n + 1, lo, i + 1 => by
    simp only [rngW, List.getElem?_cons_succ, rngW_get n (lo + 1) i]
    by_cases h : i < n
    · rw [if_pos h, if_pos (by omega)]
      congr 2
      omega
    · rw [if_neg h, if_neg (by omega)]
theorem lk_rng {ρ : List Addr} {H : Hp} (lo : Int) (n : Nat) : LkA C ρ H (.row (rngW lo n)) (Itr lo n) := by
  have main : ∀ C : Cn, Lk C ρ H (.row (rngW lo n)) (Itr lo n) := fun C ρ2 H2 s i o g S e => by
    simp only [srcAt, Option.some.injEq, rngW_get] at e
    subst e
    by_cases h : i < n
    · rw [if_pos h]
      refine ⟨h, fun u H3 ⟨e3, e4⟩ => ?_⟩
      subst e3; subst e4
      exact ⟨Gr.refl, S, Rep.mkI⟩
    · rw [if_neg h]
      exact Nat.le_of_not_lt h
  exact ⟨main C, fun D _ => main _⟩
theorem lk_live {ρ : List Addr} {H : Hp} {n : Nat} {p : Addr} (hp : ρ[n]? = some p) : LkA C ρ H (.live n) (Itl X.K p) := by
  have main : ∀ C : Cn, Lk C ρ H (.live n) (Itl X.K p) := fun C ρ2 H2 s i o g S e => by
    simp only [srcAt, liveAt] at e
    split at e
    · rename_i xs es
      cases e
      obtain ⟨p', vs, a1, a2, a3⟩ := S.at_ n xs es
      rw [g.get hp] at a1; cases a1
      cases ex : xs[i]? with
      | none =>
        refine ⟨vs, SqL.of a2, ?_⟩
        rw [← a3.length]
        exact List.getElem?_eq_none_iff.mp ex
      | some x =>
        obtain ⟨v, e1, r1⟩ := a3.get ex
        refine ⟨⟨vs, v, SqL.of a2, e1⟩, fun u H3 ⟨e3, hy⟩ => ?_⟩
        subst e3
        have := hy vs (SqL.of a2)
        rw [e1] at this
        cases this
        exact ⟨Gr.refl, S, r1⟩
    · cases e
  exact ⟨main C, fun D _ => main _⟩
def tI (C : Cn) (P : Pg) (call : Nat → List W → M W) (Wx : WX) (ir : E) : TI := fun σ H R => ∃ ρ s env, EnvR C ρ H env σ ∧ SR C ρ H s ∧ ResG C (LkA C) ρ H (evI P call ir env s) R (WE Wx σ)
theorem _root_.L2.PI.imp {tg e : Expr} {t t' : TI} (h : PI X tg e t) (k : ∀ σ H Q, t' σ H Q → t σ H Q) : PI X tg e t' := ⟨fun pins s σ H Q I q => h.run pins s σ H Q I (k σ H Q q)⟩
/-- an expression whose outcome is known, ahead of a rest -/
theorem tE.ok {a : E} {γ δ : Type} {Rl2 : List Addr → Hp → γ → δ → Prop} {f : W → M γ} {ρ : List Addr} {H : Hp} {s : ST} {env : Env} {σ : L2.St} {Q : δ → Hp → Prop} {K : V → Hp → Prop} {x0 : W} {s0 : ST} (eR : EnvR C ρ H env σ) (S : SR C ρ H s)
    (h : ResG C Rl2 ρ H (G.bnd (evE P call a env) f s) Q (WE Wx σ)) (ex : evE P call a env s = .ok x0 s0)
    (k : ∀ ρ1 H1 v, Gr ρ H ρ1 H1 → EnvR C ρ1 H1 env σ → SR C ρ1 H1 s0 → Rep C ρ1 H1 x0 v → ResG C Rl2 ρ1 H1 (f x0 s0) Q (WE Wx σ) → K v H1) : tE C P call Wx a σ H K := by
  refine ⟨ρ, s, env, eR, S, ?_⟩
  unfold G.bnd at h
  rw [ex] at h ⊢
  exact fun ρ1 H1 v g S1 r => k ρ1 H1 v g (eR.mono g) S1 r (ResG.mono h g)
theorem tE.bad {a : E} {γ δ : Type} {Rl2 : List Addr → Hp → γ → δ → Prop} {f : W → M γ} {ρ : List Addr} {H : Hp} {s : ST} {env : Env} {σ : L2.St} {Q : δ → Hp → Prop} {K : V → Hp → Prop} (eR : EnvR C ρ H env σ) (S : SR C ρ H s)
    (h : ResG C Rl2 ρ H (G.bnd (evE P call a env) f s) Q (WE Wx σ)) (ex : ∀ x0 s0, evE P call a env s ≠ .ok x0 s0) : tE C P call Wx a σ H K := by
  refine ⟨ρ, s, env, eR, S, ?_⟩
  unfold G.bnd at h
  cases e : evE P call a env s with
  | ok x0 s0 => exact (ex x0 s0 e).elim
  | exc c l s1 => rw [e] at h; exact h
  | err => rw [e] at h; exact h
theorem tA.bndI {a : E} {γ δ : Type} {Rl2 : List Addr → Hp → γ → δ → Prop} {f : List W → M γ} {ρ : List Addr} {H : Hp} {s : ST} {env : Env} {σ : L2.St} {R : δ → Hp → Prop} {K : List V → Hp → Prop} (eR : EnvR C ρ H env σ) (S : SR C ρ H s)
    (h : ResG C Rl2 ρ H (G.bnd (evA P call a env) f s) R (WE Wx σ)) (k : ∀ ρ1 H1 s1 x v, Gr ρ H ρ1 H1 → EnvR C ρ1 H1 env σ → SR C ρ1 H1 s1 → Reps C ρ1 H1 x v → ResG C Rl2 ρ1 H1 (f x s1) R (WE Wx σ) → K v H1) : tA C P call Wx a σ H K :=
  ⟨ρ, s, env, eR, S, (ResG.bnd (Rl := RepsR C) h).imp fun v H1 ⟨ρ1, s1, x, g, S1, r, h1⟩ => k ρ1 H1 s1 x v g (eR.mono g) S1 r h1⟩
theorem enumW_get : ∀ (xs : List W) (k i : Nat), (enumW k xs)[i]? = (xs[i]?).map fun x => W.tup [.int (k + i : Nat), x]
  | [], k, i => by simp [enumW]
  | x :: xs, k, 0 => by simp [enumW]
  | x :: xs, k, i + 1 => by
    simp only [enumW, List.getElem?_cons_succ, enumW_get xs (k + 1) i]
    congr 1
    funext y
    rw [show k + 1 + i = k + (i + 1) by omega]
theorem zipW_get : ∀ (xs ys : List W) (i : Nat), (zipW xs ys)[i]? = match xs[i]?, ys[i]? with | some x, some y => some (W.tup [x, y]) | _, _ => none
  | [], ys, i => by simp [zipW]
  | _ :: _, [], i => by
    simp only [zipW, List.getElem?_nil]
    split
    · rename_i h; simp at h
    · rfl
  | x :: xs, y :: ys, 0 => by simp [zipW]
  | x :: xs, y :: ys, i + 1 => by
    simp only [zipW, List.getElem?_cons_succ, zipW_get xs ys i]
theorem lk_enumL {ρ : List Addr} {H : Hp} {xs : List W} {p : Addr} {vs : List V} (ho : Out C ρ p) (hp : H p = some (.lst vs)) (r : Reps C ρ H xs vs) : LkA C ρ H (.row (enumW 0 xs)) (Ite X.K p) := by
  have main : ∀ C : Cn, Out C ρ p → Reps C ρ H xs vs → Lk C ρ H (.row (enumW 0 xs)) (Ite X.K p) := fun C ho r ρ2 H2 s i o g S e => by
    simp only [srcAt, Option.some.injEq, enumW_get, Nat.zero_add] at e
    have hp2 := g.keep p _ ho.1 hp (fun _ q => by cases q)
    subst e
    cases ex : xs[i]? with
    | none =>
      refine ⟨vs, SqL.of hp2, ?_⟩
      rw [← r.length]
      exact List.getElem?_eq_none_iff.mp ex
    | some x =>
      obtain ⟨v, e1, r1⟩ := r.get ex
      refine ⟨⟨vs, v, SqL.of hp2, e1⟩, fun u H3 ⟨T, y, e3, hn, e4, hy⟩ => ?_⟩
      subst e3; subst e4
      have := hy vs (SqL.of hp2)
      rw [e1] at this
      cases this
      exact ⟨Gr.new hn, S.new hn, Rep.newT S hn (Reps.mk Rep.mkI (Reps.one (r1.mono g)))⟩
  exact ⟨main C ho r, fun D hD => main _ (ho.hide hD hp) (Reps.hide hD _ _ r)⟩
theorem lk_enumE {ρ : List Addr} {H : Hp} {n : Nat} {p : Addr} (hp : ρ[n]? = some p) : LkA C ρ H (.liveE n) (Ite X.K p) := by
  have main : ∀ C : Cn, Lk C ρ H (.liveE n) (Ite X.K p) := fun C ρ2 H2 s i o g S e => by
    simp only [srcAt, liveAt] at e
    split at e
    · rename_i xs es
      simp only [Option.map_some, Option.some.injEq] at e
      subst e
      obtain ⟨p', vs, a1, a2, a3⟩ := S.at_ n xs es
      rw [g.get hp] at a1; cases a1
      cases ex : xs[i]? with
      | none =>
        refine ⟨vs, SqL.of a2, ?_⟩
        rw [← a3.length]
        exact List.getElem?_eq_none_iff.mp ex
      | some x =>
        obtain ⟨v, e1, r1⟩ := a3.get ex
        refine ⟨⟨vs, v, SqL.of a2, e1⟩, fun u H3 ⟨T, y, e3, hn, e4, hy⟩ => ?_⟩
        subst e3; subst e4
        have := hy vs (SqL.of a2)
        rw [e1] at this
        cases this
        exact ⟨Gr.new hn, S.new hn, Rep.newT S hn (Reps.mk Rep.mkI (Reps.one r1))⟩
    · simp at e
  exact ⟨main C, fun D _ => main _⟩
theorem lk_zipL {ρ : List Addr} {H : Hp} {xs ys : List W} {p q : Addr} {vs us : List V} (ho : Out C ρ p) (hp : H p = some (.lst vs)) (r : Reps C ρ H xs vs) (ho2 : Out C ρ q) (hp2 : H q = some (.lst us)) (r2 : Reps C ρ H ys us) : LkA C ρ H (.row (zipW xs ys)) (Itz X.K p q) := by
  have main : ∀ C : Cn, Out C ρ p → Reps C ρ H xs vs → Out C ρ q → Reps C ρ H ys us → Lk C ρ H (.row (zipW xs ys)) (Itz X.K p q) := fun C ho r ho2 r2 ρ2 H2 s i o g S e => by
    simp only [srcAt, Option.some.injEq, zipW_get] at e
    have h1 := g.keep p _ ho.1 hp (fun _ q => by cases q)
    have h2 := g.keep q _ ho2.1 hp2 (fun _ q => by cases q)
    subst e
    cases ex : xs[i]? with
    | none => exact ⟨vs, us, SqL.of h1, SqL.of h2, .inl (by rw [← r.length]; exact List.getElem?_eq_none_iff.mp ex)⟩
    | some x =>
      cases ey : ys[i]? with
      | none => exact ⟨vs, us, SqL.of h1, SqL.of h2, .inr (by rw [← r2.length]; exact List.getElem?_eq_none_iff.mp ey)⟩
      | some y =>
        obtain ⟨v, e1, r1⟩ := r.get ex
        obtain ⟨u, e2, r3⟩ := r2.get ey
        refine ⟨⟨vs, us, v, u, SqL.of h1, SqL.of h2, e1, e2⟩, fun u' H3 ⟨T, a, b, e3, hn, e4, ha, hb⟩ => ?_⟩
        subst e3; subst e4
        have ea := ha vs (SqL.of h1)
        have eb := hb us (SqL.of h2)
        rw [e1] at ea; rw [e2] at eb
        cases ea; cases eb
        exact ⟨Gr.new hn, S.new hn, Rep.newT S hn (Reps.mk (r1.mono g) (Reps.one (r3.mono g)))⟩
  exact ⟨main C ho r ho2 r2, fun D hD => main _ (ho.hide hD hp) (Reps.hide hD _ _ r) (ho2.hide hD hp2) (Reps.hide hD _ _ r2)⟩
theorem lk_zipT {ρ : List Addr} {H : Hp} {xs ys : List W} {p q : Addr} {vs us : List V} (hX : X.K = C.K) (ho : RT C ρ H p vs) (r : Reps C ρ H xs vs) (ho2 : RT C ρ H q us) (r2 : Reps C ρ H ys us) : LkA C ρ H (.row (zipW xs ys)) (RZ.ItzT X.K p q) := by
  have main : ∀ C : Cn, X.K = C.K → RT C ρ H p vs → Reps C ρ H xs vs → RT C ρ H q us → Reps C ρ H ys us → Lk C ρ H (.row (zipW xs ys)) (RZ.ItzT X.K p q) := fun C hX ho r ho2 r2 ρ2 H2 s i o g S e => by
    simp only [srcAt, Option.some.injEq, zipW_get] at e
    have h1 : SqT X.K H2 p vs := hX ▸ (ho.mono g).sq
    have h2 : SqT X.K H2 q us := hX ▸ (ho2.mono g).sq
    subst e
    cases ex : xs[i]? with
    | none => exact ⟨vs, us, h1, h2, .inl (by rw [← r.length]; exact List.getElem?_eq_none_iff.mp ex)⟩
    | some x =>
      cases ey : ys[i]? with
      | none => exact ⟨vs, us, h1, h2, .inr (by rw [← r2.length]; exact List.getElem?_eq_none_iff.mp ey)⟩
      | some y =>
        obtain ⟨v, e1, r1⟩ := r.get ex
        obtain ⟨u, e2, r3⟩ := r2.get ey
        refine ⟨⟨vs, us, v, u, h1, h2, e1, e2⟩, fun u' H3 ⟨T, a, b, e3, hn, e4, ha, hb⟩ => ?_⟩
        subst e3; subst e4
        have ea := ha vs h1
        have eb := hb us h2
        rw [e1] at ea; rw [e2] at eb
        cases ea; cases eb
        exact ⟨Gr.new hn, S.new hn, Rep.newT S hn (Reps.mk (r1.mono g) (Reps.one (r3.mono g)))⟩
  have hid : ∀ {D : Addr} {p : Addr} {vs : List V}, Fre H D → RT C ρ H p vs → RT (C.hide D) ρ H p vs := fun {D p vs} hD ho => by
    rcases ho with ⟨o, q⟩ | q
    · obtain ⟨u, hu, hn⟩ := Rd.get q
      exact .inl ⟨o.hide hD hu hn, q⟩
    · exact .inr q
  exact ⟨main C hX ho r ho2 r2, fun D hD => main _ hX (hid hD ho) (Reps.hide hD _ _ r) (hid hD ho2) (Reps.hide hD _ _ r2)⟩
theorem s_itr {tg : Expr} {a : E} {ea : Expr} (ct : Ct X C P Nn d Wx) (ha : PE X ea (tE C P call Wx a)) : PI X tg ea (tI C P call Wx (.itr a)) := by
  refine ⟨fun pins st σ H R I ⟨ρ, s, env, eR, S, h⟩ => ?_⟩
  simp only [evI] at h
  cases ex : evE P call a env s with
  | err => exact (pi_list ha).run pins st σ H R I (tE.bad eR S h fun _ _ q => by rw [ex] at q; cases q)
  | exc c l s1 => exact (pi_list ha).run pins st σ H R I (tE.bad eR S h fun _ _ q => by rw [ex] at q; cases q)
  | ok x0 s0 =>
    cases x0 with
    | lst xs =>
      refine (pi_list ha).run pins st σ H R I (tE.ok eR S h ex fun ρ1 H1 v g eR1 S1 r h1 => ?_)
      simp only [Rep] at r
      obtain ⟨p, vs, rfl, o, hp, q⟩ := r
      exact ⟨p, rfl, ⟨vs, SqL.of hp⟩, ResG.here (Rl := LkA C) (a := .row xs) (s := s0) h1 S1 (lk_rowL o hp q)⟩
    | ref n =>
      refine (pi_list ha).run pins st σ H R I (tE.ok eR S h ex fun ρ1 H1 v g eR1 S1 r h1 => ?_)
      obtain ⟨p, ep, rfl⟩ := r.ref
      obtain ⟨vs, hp⟩ := S1.some (List.mem_of_getElem? ep)
      exact ⟨p, rfl, ⟨vs, SqL.of hp⟩, ResG.here (Rl := LkA C) (a := .live n) (s := s0) h1 S1 (lk_live ep)⟩
    | tup xs =>
      refine (pi_tup ha).run pins st σ H R I (tE.ok eR S h ex fun ρ1 H1 v g eR1 S1 r h1 => ?_)
      obtain ⟨p, vs, rfl, q, r2⟩ := r.tup
      exact ⟨p, rfl, ⟨vs, ct.hK ▸ q.sq⟩, ResG.here (Rl := LkA C) (a := .row xs) (s := s0) h1 S1 (lk_rowT ct.hK q r2)⟩
    | htup xs =>
      refine (pi_tup ha).run pins st σ H R I (tE.ok eR S h ex fun ρ1 H1 v g eR1 S1 r h1 => ?_)
      obtain ⟨p, vs, rfl, q, r2⟩ := (Rep.soft (.htup xs) _ r).tup
      exact ⟨p, rfl, ⟨vs, ct.hK ▸ q.sq⟩, ResG.here (Rl := LkA C) (a := .row xs) (s := s0) h1 S1 (lk_rowT ct.hK q r2)⟩
    | str l =>
      refine (pi_str ha).run pins st σ H R I (tE.ok eR S h ex fun ρ1 H1 v g eR1 S1 r h1 => ?_)
      exact ⟨_, r.str.1, ResG.here (Rl := LkA C) (a := .row (l.map fun c => .str [c])) (s := s0) h1 S1 (lk_rowS r.str.2)⟩
    | _ =>
      exfalso
      unfold G.bnd at h
      rw [ex] at h
      exact h
theorem tA.ok {a : E} {γ δ : Type} {Rl2 : List Addr → Hp → γ → δ → Prop} {f : List W → M γ} {ρ : List Addr} {H : Hp} {s : ST} {env : Env} {σ : L2.St} {Q : δ → Hp → Prop} {K : List V → Hp → Prop} {x0 : List W} {s0 : ST} (eR : EnvR C ρ H env σ) (S : SR C ρ H s)
    (h : ResG C Rl2 ρ H (G.bnd (evA P call a env) f s) Q (WE Wx σ)) (ex : evA P call a env s = .ok x0 s0)
    (k : ∀ ρ1 H1 v, Gr ρ H ρ1 H1 → EnvR C ρ1 H1 env σ → SR C ρ1 H1 s0 → Reps C ρ1 H1 x0 v → ResG C Rl2 ρ1 H1 (f x0 s0) Q (WE Wx σ) → K v H1) : tA C P call Wx a σ H K := by
  refine ⟨ρ, s, env, eR, S, ?_⟩
  unfold G.bnd at h
  rw [ex] at h ⊢
  exact fun ρ1 H1 v g S1 r => k ρ1 H1 v g (eR.mono g) S1 r (ResG.mono h g)
theorem tA.bad {a : E} {γ δ : Type} {Rl2 : List Addr → Hp → γ → δ → Prop} {f : List W → M γ} {ρ : List Addr} {H : Hp} {s : ST} {env : Env} {σ : L2.St} {Q : δ → Hp → Prop} {K : List V → Hp → Prop} (eR : EnvR C ρ H env σ) (S : SR C ρ H s)
    (h : ResG C Rl2 ρ H (G.bnd (evA P call a env) f s) Q (WE Wx σ)) (ex : ∀ x0 s0, evA P call a env s ≠ .ok x0 s0) : tA C P call Wx a σ H K := by
  refine ⟨ρ, s, env, eR, S, ?_⟩
  unfold G.bnd at h
  cases e : evA P call a env s with
  | ok x0 s0 => exact (ex x0 s0 e).elim
  | exc c l s1 => rw [e] at h; exact h
  | err => rw [e] at h; exact h
theorem evA_nil {env : Env} {s s0 : ST} {xs : List W} (h : evA P call .nil env s = .ok xs s0) : xs = [] := by
  simp only [evA, ret, R.ok.injEq] at h
  exact h.1.symm
theorem evA_cons {a b : E} {env : Env} {s s0 : ST} {xs : List W} (h : evA P call (.cons a b) env s = .ok xs s0) : ∃ x ys s1, xs = x :: ys ∧ evA P call b env s1 = .ok ys s0 := by
  simp only [evA, G.bnd] at h
  split at h <;> try (cases h; done)
  rename_i x s1 _
  split at h <;> try (cases h; done)
  rename_i ys s2 e
  simp only [ret, R.ok.injEq] at h
  obtain ⟨h1, h2⟩ := h
  exact ⟨x, ys, s1, h1.symm, by rw [e, h2]⟩
theorem s_enum {elts : List Expr} {kk : Nat} {tpos : Pos} {a : E} {ea : Expr} {p pos : Pos} (ct : Ct X C P Nn d Wx) (hg : Gl X "enumerate") (ha : PE X ea (tE C P call Wx a)) (hs : starEach [ea] X.env = [(false, eval ea X.env)]) :
    PI X (.Tuple elts kk tpos) (.Call (.Name "enumerate" p) [ea] [] pos) (tI C P call Wx (.enum a)) := by
  have hl : PA X [ea] (tA C P call Wx (.cons a .nil)) := s_cons ha s_nil hs
  refine ⟨fun pins st σ H R I ⟨ρ, s, env, eR, S, h⟩ => (pi_enum (elts := elts) (kk := kk) (tpos := tpos) (p := p) (pos := pos) hg (ct.blt _ (by decide +kernel)) hl hs).run pins st σ H R I ?_⟩
  have h' : ResG C (LkA C) ρ H (G.bnd (evA P call (.cons a .nil) env) (fun xs => match xs with | [x] => opt (srcEnum x) | _ => fail) s) R (WE Wx σ) := by
    simp only [evI] at h
    simp only [evA]
    unfold G.bnd at h
    unfold G.bnd ret
    cases e : evE P call a env s <;> simp only [e] at h ⊢ <;> exact h
  refine tA.bndI eR S h' fun ρ1 H1 s1 x v g1 eR1 S1 r1 h1 => ?_
  split at h1
  · rename_i x
    obtain ⟨v, rfl, r⟩ := rep1 r1
    obtain ⟨src, e1, h2⟩ := h1.opt
    cases x <;> simp only [srcEnum, Option.some.injEq, reduceCtorEq] at e1
    · subst e1
      simp only [Rep] at r
      obtain ⟨p, vs, rfl, o, hp, q⟩ := r
      exact ⟨p, vs, rfl, SqL.of hp, ResG.here (Rl := LkA C) h2 S1 (lk_enumL o hp q)⟩
    · subst e1
      obtain ⟨p, ep, rfl⟩ := r.ref
      obtain ⟨vs, hp⟩ := S1.some (List.mem_of_getElem? ep)
      exact ⟨p, vs, rfl, SqL.of hp, ResG.here (Rl := LkA C) h2 S1 (lk_enumE ep)⟩
  · exact h1.elim
theorem s_zip {elts : List Expr} {kk : Nat} {tpos : Pos} {a b : E} {ea eb : Expr} {p pos : Pos} (ct : Ct X C P Nn d Wx) (hg : Gl X "zip") (ha : PE X ea (tE C P call Wx a)) (hb : PE X eb (tE C P call Wx b)) (hs : starEach [ea, eb] X.env = (false, eval ea X.env) :: starEach [eb] X.env)
    (hs2 : starEach [eb] X.env = (false, eval eb X.env) :: starEach [] X.env) (hpl : (backTo pos (starEach [eb] X.env)).any (·.1) = false) : PI X (.Tuple elts kk tpos) (.Call (.Name "zip" p) [ea, eb] [] pos) (tI C P call Wx (.zip a b)) := by
  have hl : PA X [ea, eb] (tA C P call Wx (.cons a (.cons b .nil))) := s_cons ha (s_cons hb s_nil hs2) hs
  refine ⟨fun pins st σ H R I ⟨ρ, s, env, eR, S, h⟩ => (RZ.pi_zipA (elts := elts) (kk := kk) (tpos := tpos) (p := p) (pos := pos) hg (ct.blt _ (by decide +kernel)) hl hs hpl).run pins st σ H R I ?_⟩
  have h' : ResG C (LkA C) ρ H (G.bnd (evA P call (.cons a (.cons b .nil)) env) (fun xs => match xs with | [x, y] => rd fun s => srcZip s (soft x) (soft y) | _ => fail) s) R (WE Wx σ) := by
    simp only [evI] at h
    simp only [evA]
    unfold G.bnd at h
    unfold G.bnd ret
    cases e : evE P call a env s with
    | ok x s1 =>
      simp only [e] at h ⊢
      cases e2 : evE P call b env s1 <;> simp only [e2] at h ⊢ <;> exact h
    | exc c l s1 => simp only [e] at h ⊢; exact h
    | err => simp only [e] at h
             exact h.elim
  refine tA.bndI eR S h' fun ρ1 H1 s1 x v g1 eR1 S1 r1 h1 => ?_
  split at h1
  · rename_i x y
    obtain ⟨v1, vv, rfl, p1, p2⟩ := r1.cons'
    obtain ⟨v2, rfl, p3⟩ := rep1 p2
    have p1 := Rep.soft _ _ p1
    have p3 := Rep.soft _ _ p3
    obtain ⟨src, e1, h2⟩ := h1.rd
    revert p1 p3 e1
    generalize soft x = x'
    generalize soft y = y'
    intro p1 p3 e1
    cases x' <;> cases y' <;> simp only [srcZip, Option.some.injEq, reduceCtorEq] at e1
    · subst e1
      obtain ⟨pa, vs, rfl, qa, ra⟩ := p1.tup
      obtain ⟨pb, us, rfl, qb, rb⟩ := p3.tup
      exact ⟨pa, pb, vs, us, rfl, .inr ⟨ct.hK ▸ qa.sq, ct.hK ▸ qb.sq, ResG.here (Rl := LkA C) h2 S1 (lk_zipT ct.hK qa ra qb rb)⟩⟩
    · subst e1
      simp only [Rep] at p1 p3
      obtain ⟨pa, vs, rfl, oa, ha', qa⟩ := p1
      obtain ⟨pb, us, rfl, ob, hb', qb⟩ := p3
      exact ⟨pa, pb, vs, us, rfl, .inl ⟨SqL.of ha', SqL.of hb', ResG.here (Rl := LkA C) h2 S1 (lk_zipL oa ha' qa ob hb' qb)⟩⟩
  · exact h1.elim
theorem s_rng1 {tg : Expr} {a : E} {e : Expr} {p pos : Pos} (ct : Ct X C P Nn d Wx) (hg : Gl X "range") (hl : PA X [e] (tA C P call Wx (.cons a .nil))) (hs : starEach [e] X.env = [(false, eval e X.env)]) :
    PI X tg (.Call (.Name "range" p) [e] [] pos) (tI C P call Wx (.rng (.cons a .nil))) := by
  refine ⟨fun pins st σ H R I ⟨ρ, s, env, eR, S, h⟩ => ?_⟩
  have rule := pi_range1 (tg := tg) (p := p) (pos := pos) hg (ct.blt _ (by decide +kernel)) hl hs
  simp only [evI] at h
  cases ex : evA P call (.cons a .nil) env s with
  | err => exact rule.run pins st σ H R I (tA.bad eR S h fun _ _ q => by rw [ex] at q; cases q)
  | exc c l s1 => exact rule.run pins st σ H R I (tA.bad eR S h fun _ _ q => by rw [ex] at q; cases q)
  | ok xs s0 =>
    refine rule.run pins st σ H R I (tA.ok eR S h ex fun ρ1 H1 v g eR1 S1 r h1 => ?_)
    obtain ⟨x, ys, s1, rfl, e2⟩ := evA_cons ex
    have := evA_nil e2; subst this
    obtain ⟨zs, e3, h2⟩ := h1.pureO
    cases x <;> simp only [rngOf, reduceCtorEq] at e3
    rename_i j
    split at e3
    · rename_i hb
      cases e3
      obtain ⟨v, rfl, r2⟩ := rep1 r
      rw [r2.int]
      have : small = 1000000000 := rfl
      exact ⟨j, rfl, by omega, by omega, ResG.here (Rl := LkA C) (a := .row (rngW 0 j.toNat)) (s := s0) h2 S1 (lk_rng 0 _)⟩
    · cases e3
theorem s_rng2 {tg : Expr} {a b : E} {e e' : Expr} {p pos : Pos} (ct : Ct X C P Nn d Wx) (hg : Gl X "range") (hl : PA X [e, e'] (tA C P call Wx (.cons a (.cons b .nil)))) (hs : starEach [e, e'] X.env = [(false, eval e X.env), (false, eval e' X.env)])
    (hs2 : starEach [e'] X.env = [(false, eval e' X.env)]) : PI X tg (.Call (.Name "range" p) [e, e'] [] pos) (tI C P call Wx (.rng (.cons a (.cons b .nil)))) := by
  refine ⟨fun pins st σ H R I ⟨ρ, s, env, eR, S, h⟩ => ?_⟩
  have rule := pi_range2 (tg := tg) (p := p) (pos := pos) hg (ct.blt _ (by decide +kernel)) hl hs hs2
  simp only [evI] at h
  cases ex : evA P call (.cons a (.cons b .nil)) env s with
  | err => exact rule.run pins st σ H R I (tA.bad eR S h fun _ _ q => by rw [ex] at q; cases q)
  | exc c l s1 => exact rule.run pins st σ H R I (tA.bad eR S h fun _ _ q => by rw [ex] at q; cases q)
  | ok xs s0 =>
    refine rule.run pins st σ H R I (tA.ok eR S h ex fun ρ1 H1 v g eR1 S1 r h1 => ?_)
    obtain ⟨x, ys, s1, rfl, e2⟩ := evA_cons ex
    obtain ⟨y, zs0, s2, rfl, e2'⟩ := evA_cons e2
    have := evA_nil e2'; subst this
    obtain ⟨zs, e3, h2⟩ := h1.pureO
    cases x <;> cases y <;> simp only [rngOf, reduceCtorEq] at e3
    rename_i i j
    split at e3
    · rename_i hb
      cases e3
      obtain ⟨v, us, rfl, r2, r3⟩ := r.cons'
      obtain ⟨v', rfl, r4⟩ := rep1 r3
      rw [r2.int, r4.int]
      have : small = 1000000000 := rfl
      exact ⟨i, j, rfl, ⟨by omega, by omega, by omega, by omega⟩, ResG.here (Rl := LkA C) (a := .row (rngW i (j - i).toNat)) (s := s0) h2 S1 (lk_rng i _)⟩
    · cases e3
/-! ### targets -/
mutual
def ckT (sc : Scope) (cl : Bool) (N : List Str) : T → Expr → Bool
  | .v i, .Name x _ => N[i]? == some x && (sc.names.lookup x == some .local || (cl && sc.names.lookup x == some .cell))
  | .cons a b, .Tuple (e :: es) _ _ => ckT sc cl N a e && ckTs sc cl N b es
  | _, _ => false
def ckTs (sc : Scope) (cl : Bool) (N : List Str) : T → List Expr → Bool
  | .nil, [] => true
  | .cons a b, e :: es => ckT sc cl N a e && ckTs sc cl N b es
  | _, _ => false
end
/-- the slots that a target writes -/
def tgV : T → List Nat
  | .v i => [i]
  | .nil => []
  | .cons a b => tgV a ++ tgV b
theorem wipe_set_gen (σ : L2.St) (i : Nat) (v : Option V) : ∀ js : List Nat, L2.wipe (σ.set i v) js = if i ∈ js then L2.wipe σ js else (L2.wipe σ js).set i v
  | [] => by simp [L2.wipe]
  | j :: js => by
    simp only [L2.wipe, wipe_set_gen σ i v js]
    by_cases h : i ∈ js
    · simp [h]
    · by_cases hj : i = j
      · subst hj; simp [h, L2.wipe]
      · simp only [h, if_false, List.mem_cons, hj, or_self, List.set_comm _ _ hj]
def Keeps (t : T) (σ σ' : L2.St) : Prop := ∀ own : List Nat, (∀ i ∈ tgV t, i ∈ own) → L2.wipe σ' own = L2.wipe σ own
def tG (C : Cn) (t : T) : TG := fun v σ H Q => ∃ ρ s env w env', EnvR C ρ H env σ ∧ SR C ρ H s ∧ Rep C ρ H w v ∧ asg t w env = some env' ∧ ∀ σ', EnvR C ρ H env' σ' → Keeps t σ σ' → Q σ' H
def tGs (C : Cn) (t : T) : TGs := fun vs σ H Q => ∃ ρ s env ws env', EnvR C ρ H env σ ∧ SR C ρ H s ∧ Reps C ρ H ws vs ∧ asgs t ws env = some env' ∧ ∀ σ', EnvR C ρ H env' σ' → Keeps t σ σ' → Q σ' H
theorem _root_.L2.PG.imp {e : Expr} {t t' : TG} (h : PG X e t) (k : ∀ v σ H Q, t' v σ H Q → t v σ H Q) : PG X e t' := ⟨fun pins s σ H v u Q I r q => h.run pins s σ H v u Q I r (k v σ H Q q)⟩
theorem _root_.L2.PGs.imp {e : List Expr} {t t' : TGs} (h : PGs X e t) (k : ∀ v σ H Q, t' v σ H Q → t v σ H Q) : PGs X e t' := ⟨fun pins s σ H v u Q I r q => h.run pins s σ H v u Q I r (k v σ H Q q)⟩
theorem asgs_len : ∀ {t : T} {ws : List W} {env env' : Env} {es : List Expr} {sc : Scope} {cl : Bool} {N : List Str}, ckTs sc cl N t es = true → asgs t ws env = some env' → ws.length = es.length
  | .nil, [], _, _, [], _, _, _, _, _ => rfl
  | .cons a b, w :: ws, env, env', e :: es, sc, cl, N, h, q => by
    simp only [ckTs, Bool.and_eq_true] at h
    simp only [asgs, Option.bind_eq_some_iff] at q
    obtain ⟨env1, _, q⟩ := q
    simp [asgs_len h.2 q]
  | .nil, _ :: _, _, _, _, _, _, _, _, q => by simp [asgs] at q
  | .nil, [], _, _, _ :: _, _, _, _, h, _ => by simp [ckTs] at h
  | .cons _ _, [], _, _, _, _, _, _, _, q => by simp [asgs] at q
  | .cons _ _, _ :: _, _, _, [], _, _, _, h, _ => by simp [ckTs] at h
  | .v _, _, _, _, _, _, _, _, h, _ => by simp [ckTs] at h
theorem asgEach {e : Expr} {es : List Expr} {env : PySem.Env} {t : T} {sc : Scope} {cl : Bool} {N : List Str} (h : ckT sc cl N t e = true) : assignEach (e :: es) env = (false, assign e env) :: assignEach es env := by
  cases t <;> cases e <;> first | rfl | (simp [ckT] at h; done)
theorem asgEach_len : ∀ {t : T} {es : List Expr} {sc : Scope} {cl : Bool} {N : List Str} (env : PySem.Env), ckTs sc cl N t es = true → (assignEach es env).length = es.length ∧ (assignEach es env).findIdx? (·.1) = none
  | .nil, [], _, _, _, env, _ => ⟨rfl, rfl⟩
  | .cons a b, e :: es, sc, cl, N, env, h => by
    simp only [ckTs, Bool.and_eq_true] at h
    obtain ⟨h1, h2⟩ := asgEach_len env h.2
    rw [asgEach h.1]
    exact ⟨by simp [h1], by simp [List.findIdx?_cons, h2]⟩
  | .nil, _ :: _, _, _, _, _, h => by simp [ckTs] at h
  | .cons _ _, [], _, _, _, _, h => by simp [ckTs] at h
  | .v _, _, _, _, _, _, h => by simp [ckTs] at h
mutual
theorem s_tg {sc : Scope} {cl : Bool} (hK : X.K = C.K) (hN : X.N.Nodup) (hc : X.calm = true) (Q : Sc X sc cl) : ∀ (t : T) (e : Expr), ckT sc cl X.N t e = true → PG X e (tG C t)
  | .v i, .Name x p, h => by
    simp only [ckT, Bool.and_eq_true, beq_iff_eq, Bool.or_eq_true] at h
    obtain ⟨h1, h2⟩ := Q.st x h.2
    refine (pg_name hN h.1 h1 h2).imp fun v σ H R ⟨ρ, s, env, w, env', eR, S, r, e, k⟩ => ?_
    simp only [asg] at e
    split at e
    · cases e
      exact k _ (eR.set r) fun own ho => by rw [wipe_set_gen, if_pos (ho i (by simp [tgV]))]
    · cases e
  | .cons a b, .Tuple (e :: es) kk p, h => by
    simp only [ckT, Bool.and_eq_true] at h
    obtain ⟨h1, h2⟩ := asgEach_len X.env h.2
    have h3 : ckTs sc cl X.N (.cons a b) (e :: es) = true := by simp only [ckTs, Bool.and_eq_true]; exact h
    refine (pg_tup hc (pgs_cons (s_tg hK hN hc Q a e h.1) (s_tgs hK hN hc Q b es h.2) (by rw [asgEach h.1]; rfl)) rfl (asgEach_len X.env h3).2).imp fun v σ H R ⟨ρ, s, env, w, env', eR, S, r, e, k⟩ => ?_
    obtain ⟨ws, e, r⟩ : ∃ ws, asg (.cons a b) (.tup ws) env = some env' ∧ Rep C ρ H (.tup ws) v := by
      cases w with
      | tup ws => exact ⟨ws, e, r⟩
      | htup ws =>
        refine ⟨ws, ?_, Rep.soft (.htup ws) _ r⟩
        cases ws with
        | nil => simp [asg] at e
        | cons w ws => simpa only [asg] using e
      | _ => simp [asg] at e
    cases ws with
    | nil => simp [asg] at e
    | cons w ws =>
      simp only [asg, Option.bind_eq_some_iff] at e
      obtain ⟨env1, e1, e2⟩ := e
      obtain ⟨pp, vs, rfl, q, r2⟩ := r.tup
      obtain ⟨v, us, rfl, r3, r4⟩ := r2.cons'
      refine ⟨pp, v :: us, rfl, hK ▸ q.sq, ?_, v, us, rfl, ⟨ρ, s, env, w, env1, eR, S, r3, e1, fun σ' eR' kp => ⟨ρ, s, env1, ws, env', eR', S, r4, e2, fun σ2 eR2 kp2 => k σ2 eR2 fun own ho => (kp2 own fun i hi => ho i (by simp [tgV, hi])).trans (kp own fun i hi => ho i (by simp [tgV, hi]))⟩⟩⟩
      rw [(asgEach_len X.env h3).1, List.length_cons, List.length_cons, ← r4.length, asgs_len h.2 e2]
  | .nil, _, h => by simp [ckT] at h
  | .v _, .Tuple .., h => by simp [ckT] at h
  | .cons _ _, .Tuple [] _ _, h => by simp [ckT] at h
  | .cons _ _, .Name .., h => by simp [ckT] at h
  | .v _, .BoolOp .., h | .v _, .NamedExpr .., h | .v _, .BinOp .., h | .v _, .UnaryOp .., h | .v _, .Lambda .., h | .v _, .IfExp .., h | .v _, .Dict .., h | .v _, .Set .., h | .v _, .ListComp .., h | .v _, .SetComp .., h | .v _, .DictComp .., h | .v _, .GeneratorExp .., h | .v _, .Await .., h | .v _, .Yield .., h | .v _, .YieldFrom .., h | .v _, .Compare .., h | .v _, .Call .., h | .v _, .FormattedValue .., h | .v _, .JoinedStr .., h | .v _, .Constant .., h | .v _, .Attribute .., h | .v _, .Subscript .., h | .v _, .Starred .., h | .v _, .List .., h | .v _, .Slice .., h => by simp [ckT] at h
  | .cons _ _, .BoolOp .., h | .cons _ _, .NamedExpr .., h | .cons _ _, .BinOp .., h | .cons _ _, .UnaryOp .., h | .cons _ _, .Lambda .., h | .cons _ _, .IfExp .., h | .cons _ _, .Dict .., h | .cons _ _, .Set .., h | .cons _ _, .ListComp .., h | .cons _ _, .SetComp .., h | .cons _ _, .DictComp .., h | .cons _ _, .GeneratorExp .., h | .cons _ _, .Await .., h | .cons _ _, .Yield .., h | .cons _ _, .YieldFrom .., h | .cons _ _, .Compare .., h | .cons _ _, .Call .., h | .cons _ _, .FormattedValue .., h | .cons _ _, .JoinedStr .., h | .cons _ _, .Constant .., h | .cons _ _, .Attribute .., h | .cons _ _, .Subscript .., h | .cons _ _, .Starred .., h | .cons _ _, .List .., h | .cons _ _, .Slice .., h => by simp [ckT] at h
theorem s_tgs {sc : Scope} {cl : Bool} (hK : X.K = C.K) (hN : X.N.Nodup) (hc : X.calm = true) (Q : Sc X sc cl) : ∀ (t : T) (es : List Expr), ckTs sc cl X.N t es = true → PGs X es (tGs C t)
  | .nil, [], _ => by
    refine pgs_nil.imp fun vs σ H R ⟨ρ, s, env, ws, env', eR, S, r, e, k⟩ => ?_
    cases ws with
    | nil => simp only [asgs, Option.some.injEq] at e; subst e; exact ⟨r.nil', k σ eR fun _ _ => rfl⟩
    | cons _ _ => simp [asgs] at e
  | .cons a b, e :: es, h => by
    simp only [ckTs, Bool.and_eq_true] at h
    refine (pgs_cons (s_tg hK hN hc Q a e h.1) (s_tgs hK hN hc Q b es h.2) (by rw [asgEach h.1]; rfl)).imp fun vs σ H R ⟨ρ, s, env, ws, env', eR, S, r, e, k⟩ => ?_
    cases ws with
    | nil => simp [asgs] at e
    | cons w ws =>
      simp only [asgs, Option.bind_eq_some_iff] at e
      obtain ⟨env1, e1, e2⟩ := e
      obtain ⟨v, us, rfl, r3, r4⟩ := r.cons'
      exact ⟨v, us, rfl, ⟨ρ, s, env, w, env1, eR, S, r3, e1, fun σ' eR' kp => ⟨ρ, s, env1, ws, env', eR', S, r4, e2, fun σ2 eR2 kp2 => k σ2 eR2 fun own ho => (kp2 own fun i hi => ho i (by simp [tgV, hi])).trans (kp own fun i hi => ho i (by simp [tgV, hi]))⟩⟩⟩
  | .nil, _ :: _, h => by simp [ckTs] at h
  | .cons _ _, [], h => by simp [ckTs] at h
  | .v _, _, h => by simp [ckTs] at h
end
end
end G

set_option Elab.async false
set_option linter.all false
set_option autoImplicit false
set_option maxRecDepth 100000
set_option maxHeartbeats 2000000
/-! G8: comprehensions. -/
namespace G
open PySem PySem.Spec PyProof.Rows L2
section
variable {X : Cx} {C : Cn} {P : Pg} {Nn : Nm} {d : Nat} {Wx : WX} {call : Nat → List W → M W}
abbrev Cn.at (C : Cn) (xi : Addr → Prop) : Cn := { C with xi := xi }
abbrev WF : WX := fun _ _ _ _ => False
/-- the rounds by index -/
def compI (src : Src) (f : W → M (Option W)) : Nat → Nat → ST → R (List W)
  | 0, _, _ => .err
  | m + 1, i, s => match srcAt src i s with
    | none => .err
    | some none => .ok [] s
    | some (some x) => match f x s with
      | .ok o s1 => match compI src f m (i + 1) s1 with
        | .ok ys s2 => .ok (ocons o ys) s2
        | r => r
      | _ => .err
theorem comp_I (f : W → M (Option W)) (all : List W) : ∀ (xs : List W) (i : Nat) (s s' : ST) (ys : List W), all.drop i = xs → comp f xs s = .ok ys s' → ∃ m, compI (.row all) f m i s = .ok ys s'
  | [], i, s, s', ys, hd, h => by
    simp only [comp, ret, R.ok.injEq] at h
    have hl : all.length ≤ i := List.drop_eq_nil_iff.mp hd
    refine ⟨1, ?_⟩
    simp only [compI, srcAt, List.getElem?_eq_none hl]
    rw [h.1, h.2]
  | x :: xs, i, s, s', ys, hd, h => by
    have hx : all[i]? = some x := by
      have := congrArg (fun l => l[0]?) hd
      simpa [List.getElem?_drop] using this
    have hd' : all.drop (i + 1) = xs := by
      have := congrArg (List.drop 1) hd
      simpa [List.drop_drop] using this
    simp only [comp, bnd] at h
    cases e : f x s with
    | ok o s1 =>
      rw [e] at h
      simp only at h
      cases e2 : comp f xs s1 with
      | ok zs s2 =>
        rw [e2] at h
        simp only [ret, R.ok.injEq] at h
        obtain ⟨m, hm⟩ := comp_I f all xs (i + 1) s1 s2 zs hd' e2
        refine ⟨m + 1, ?_⟩
        simp only [compI, srcAt, hx, e, hm]
        rw [← h.1, ← h.2]
      | exc c l s2 => rw [e2] at h; cases h
      | err => rw [e2] at h; cases h
    | exc c l s1 => rw [e] at h; cases h
    | err => rw [e] at h; cases h
theorem compL_I (f : W → M (Option W)) (src : Src) (g : Nat → W → W) (n : Nat) (hs : ∀ i s, srcAt src i s = (liveAt n i s).map fun o => o.map (g i)) : ∀ (k i : Nat) (s s' : ST) (ys : List W), compL g f n k i s = .ok ys s' → compI src f k i s = .ok ys s'
  | 0, i, s, s', ys, h => by simp [compL, fail] at h
  | k + 1, i, s, s', ys, h => by
    simp only [compL, bnd, rd] at h
    simp only [compI, hs]
    cases e0 : liveAt n i s with
    | none => rw [e0] at h; cases h
    | some o =>
      rw [e0] at h
      cases o with
      | none => exact h
      | some x =>
        simp only [Option.map_some]
        simp only [bnd] at h
        cases e : f (g i x) s with
        | ok o s1 =>
          rw [e] at h
          simp only at h
          cases e2 : compL g f n k (i + 1) s1 with
          | ok zs s2 =>
            rw [e2] at h
            simp only [ret, R.ok.injEq] at h
            simp only [compL_I f src g n hs k (i + 1) s1 s2 zs e2, ← h.1, ← h.2]
          | exc c l s2 => rw [e2] at h; cases h
          | err => rw [e2] at h; cases h
        | exc c l s1 => rw [e] at h; cases h
        | err => rw [e] at h; cases h
theorem compS_I {f : W → M (Option W)} {fuel : Nat} {src : Src} {s s' : ST} {ys : List W} (h : compS f fuel src s = .ok ys s') : ∃ m, compI src f m 0 s = .ok ys s' := by
  cases src with
  | row xs => exact comp_I f xs xs 0 s s' ys rfl h
  | live n => exact ⟨fuel, compL_I f _ _ n (fun i s => by simp only [srcAt]; cases liveAt n i s with | none => rfl | some o => cases o <;> rfl) fuel 0 s s' ys h⟩
  | liveE n => exact ⟨fuel, compL_I f _ _ n (fun i s => rfl) fuel 0 s s' ys h⟩
/-- tests one behind the other -/
def tBs (C : Cn) (P : Pg) (call : Nat → List W → M W) (Wx : WX) (ir : E) : TT := fun σ H Q => ∃ ρ s env, EnvR C ρ H env σ ∧ SR C ρ H s ∧ ResG C BoolR ρ H (evB P call ir env s) Q (WE Wx σ)
theorem _root_.L2.PTs.imp {e : List Expr} {t t' : TT} (h : PTs X e t) (k : ∀ σ H Q, t' σ H Q → t σ H Q) : PTs X e t' := ⟨fun pins s σ H Q I q => h.run pins s σ H Q I (k σ H Q q)⟩
theorem s_bs0 : PTs X [] (tBs C P call Wx .nil) := by
  refine pts_nil.imp fun σ H Q ⟨ρ, s, env, eR, S, h⟩ => ?_
  simp only [evB] at h
  exact ResG.here (Rl := BoolR) (a := true) (v := true) h S rfl
theorem s_bs1 {a : E} {ea : Expr} (ha : PT X ea (tT C P call Wx a)) : PTs X [ea] (tBs C P call Wx (.cons a .nil)) := by
  refine (pts_one ha).imp fun σ H Q ⟨ρ, s, env, eR, S, h⟩ => ?_
  simp only [evB] at h
  refine tT.bnd eR S rfl h (fun x s hx => ?_) fun ρ1 H1 s1 k g1 eR1 S1 h1 => ?_
  · cases x <;> first | rfl | exact (hx _ rfl).elim
  · cases k with
    | true => exact ResG.here (Rl := BoolR) (a := true) (v := true) h1 S1 rfl
    | false => exact ResG.here (Rl := BoolR) (a := false) (v := false) h1 S1 rfl
theorem wipe_idem (σ : L2.St) (own : List Nat) : L2.wipe (L2.wipe σ own) own = L2.wipe σ own := by
  have set_all : ∀ (js : List Nat) (τ : L2.St) (i : Nat), i ∈ js → L2.wipe (τ.set i none) js = L2.wipe τ js := fun js τ i h => by rw [wipe_set_gen, if_pos h]
  have : ∀ (is : List Nat), (∀ i ∈ is, i ∈ own) → L2.wipe (L2.wipe σ is) own = L2.wipe σ own := fun is => by
    induction is with
    | nil => intro _; rfl
    | cons i is ih =>
      intro h
      simp only [L2.wipe]
      rw [set_all own _ i (h i List.mem_cons_self)]
      exact ih fun j hj => h j (List.mem_cons_of_mem _ hj)
  exact this own fun _ h => h
theorem PE.ex {ι : Type} {e : Expr} {t : ι → TE} (h : ∀ i, PE X e (t i)) : PE X e (fun σ H Q => ∃ i, t i σ H Q) := ⟨fun pins s σ H Q I ⟨i, q⟩ => (h i).run pins s σ H Q I q⟩
theorem PTs.ex {ι : Type} {e : List Expr} {t : ι → TT} (h : ∀ i, PTs X e (t i)) : PTs X e (fun σ H Q => ∃ i, t i σ H Q) := ⟨fun pins s σ H Q I ⟨i, q⟩ => (h i).run pins s σ H Q I q⟩
theorem PG.ex {ι : Type} {e : Expr} {t : ι → TG} (h : ∀ i, PG X e (t i)) : PG X e (fun v σ H Q => ∃ i, t i v σ H Q) := ⟨fun pins s σ H v u Q I r ⟨i, q⟩ => (h i).run pins s σ H v u Q I r q⟩
theorem EnvR.hide {ρ : List Addr} {H : Hp} {env : Env} {σ : L2.St} {D : Addr} (e : EnvR C ρ H env σ) (hD : H D = none) : EnvR (C.hide D) ρ H env σ := ⟨e.len, fun i w h => by
  obtain ⟨v, h1, r⟩ := e.at_ i w h
  exact ⟨v, h1, Rep.hide (Fre.of hD) _ _ r⟩⟩
def stepF (P : Pg) (call : Nat → List W → M W) (t : T) (ifs e : E) (own : List Nat) (env : Env) : W → M (Option W) := fun w =>
  match asg t w (wipes env own) with
  | some env' => bnd (evB P call ifs env') fun r => if r then bnd (evE P call e env') fun y => ret (some y) else ret none
  | none => fail
theorem i_lc {t : T} {it ifs e : E} {own : List Nat} (hown : ∀ i ∈ tgV t, i ∈ own) {σ : L2.St} {H : Hp} {Q : VK} (h : tE C P call Wx (.lc t it ifs e own) σ H Q) :
    tLc (tI C P call Wx it) (fun v σ H Q => ∃ xi, tG (C.at xi) t v σ H Q) (fun σ H Q => ∃ xi, tBs (C.at xi) P call WF ifs σ H Q) (fun σ H Q => ∃ xi, tE (C.at xi) P call WF e σ H Q) own σ H Q := by
  obtain ⟨ρ, s, env, eR, S, h⟩ := h
  simp only [evE] at h
  refine ⟨ρ, s, env, eR, S, (ResG.bnd (Rl := LkA C) h).imp fun J H1 ⟨ρ1, s1, src, g1, S1, lk, h1⟩ => ?_⟩
  intro D hD
  -- the rounds came to rows
  obtain ⟨ys, s2, hcomp, hline, h1'⟩ : ∃ ys s2, compS (stepF P call t ifs e own env) P.fuel src s1 = .ok ys s2 ∧ ys.length ≤ line ∧ ResG C (RepR C) ρ1 H1 (.ok (.lst ys) s2) Q (WE Wx σ) := by
    have h1 : ResG C (RepR C) ρ1 H1 (G.bnd (noexc (fits (compS (stepF P call t ifs e own env) P.fuel src))) (fun ys => ret (.lst ys)) s1) Q (WE Wx σ) := h1
    unfold G.bnd noexc fits G.bnd at h1
    cases e0 : compS (stepF P call t ifs e own env) P.fuel src s1 with
    | ok ys s2 =>
      rw [e0] at h1
      simp only at h1
      by_cases hl : ys.length ≤ line
      · rw [if_pos hl] at h1
        exact ⟨ys, s2, rfl, hl, h1⟩
      · rw [if_neg hl] at h1
        exact h1.elim
    | exc c l s2 => rw [e0] at h1; exact h1.elim
    | err => rw [e0] at h1; exact h1.elim
  obtain ⟨m0, hm0⟩ := compS_I hcomp
  have lkD := lk.2 D (Fre.of hD)
  have eR1 := (eR.mono g1).hide hD
  have outD : ∀ ρ2 : List Addr, ∀ H2 s, SR (C.hide D) ρ2 H2 s → D ∉ ρ2 := fun ρ2 H2 s S => (S.xl D (.inr rfl)).1
  refine ⟨fun i m H2 => ∃ ρ2 s' accW accV rest, Gr ρ1 H1 ρ2 H2 ∧ SR (C.hide D) ρ2 H2 s' ∧ H2 D = some (.lst accV) ∧ Reps (C.hide D) ρ2 H2 accW accV ∧ accW ++ rest = ys ∧ compI src (stepF P call t ifs e own env) m i s' = .ok rest s2, ⟨m0, ρ1, s1, [], [], ys, ?_, S1.hide hD, upd_same, by simp only [Reps], rfl, hm0⟩, ?_⟩
  · exact Gr.new hD
  rintro i m H2 ⟨ρ2, s', accW, accV, rest, g2, S2, hH2, rA, eA, hc⟩
  cases m with
  | zero => simp [compI] at hc
  | succ m =>
    simp only [compI] at hc
    cases esrc : srcAt src i s' with
    | none => rw [esrc] at hc; cases hc
    | some o =>
      rw [esrc] at hc
      have lki := lkD ρ2 H2 s' i o g2 S2 esrc
      cases o with
      | none =>
        simp only [R.ok.injEq] at hc
        obtain ⟨rfl, rfl⟩ := hc
        refine .inl ⟨lki, ?_⟩
        refine h1' ρ2 H2 _ g2 S2.show ?_
        rw [← eA, List.append_nil]
        show Rep C ρ2 H2 (.lst accW) (.ref D)
        simp only [Rep]
        exact ⟨D, accV, rfl, ⟨outD _ _ _ S2, fun hx => by
          obtain ⟨_, zs, ez⟩ := S1.xl D hx
          rw [hD] at ez; cases ez⟩, hH2, Reps.show _ _ rA⟩
      | some x =>
        simp only at hc
        obtain ⟨jgo, jyld⟩ := lki
        refine .inr ⟨jgo, _, fun H' hn => ⟨m, Nat.lt_succ_self m, hn⟩, fun v H3 hy => ?_⟩
        obtain ⟨g3, S3, rx⟩ := jyld v H3 hy
        cases ef : stepF P call t ifs e own env x s' with
        | exc c l s3 => rw [ef] at hc; cases hc
        | err => rw [ef] at hc; cases hc
        | ok o s3 =>
          rw [ef] at hc
          simp only at hc
          cases er : compI src (stepF P call t ifs e own env) m (i + 1) s3 with
          | exc c l s4 => rw [er] at hc; cases hc
          | err => rw [er] at hc; cases hc
          | ok zs s4 =>
            rw [er] at hc
            simp only [R.ok.injEq] at hc
            obtain ⟨erest, es4⟩ := hc
            subst es4
            unfold stepF at ef
            cases ea : asg t x (wipes env own) with
            | none => rw [ea] at ef; cases ef
            | some env' =>
              rw [ea] at ef
              simp only at ef
              have hD3 : H3 D = some (.lst accV) := g3.keep D _ (outD _ _ _ S2) hH2 (fun _ q => by cases q)
              have gA := g2.trans g3
              refine ⟨(C.hide D).xi, ρ2, s', wipes env own, x, env', (eR1.mono gA).wipe own, S3, rx, ea, fun σ' eR' kp => ⟨(kp own hown).trans (wipe_idem σ own), ?_⟩⟩
              refine ⟨(C.hide D).xi, ρ2, s', env', eR', S3, ?_⟩
              unfold bnd at ef
              cases eb : evB P call ifs env' s' with
              | exc c l s5 => rw [eb] at ef; cases ef
              | err => rw [eb] at ef; cases ef
              | ok b s5 =>
                rw [eb] at ef
                intro ρ4 H4 b' g4 S4 hb
                have hb : b = b' := hb
                subst hb
                have hD4 : H4 D = some (.lst accV) := g4.keep D _ (outD _ _ _ S3) hD3 (fun _ q => by cases q)
                have rA4 := Reps.mono (g3.trans g4) _ _ rA
                cases b with
                | false =>
                  rw [if_neg Bool.false_ne_true]
                  simp only [Bool.false_eq_true, if_false, ret, R.ok.injEq] at ef
                  obtain ⟨rfl, rfl⟩ := ef
                  simp only [ocons] at erest
                  exact ⟨ρ4, s5, accW, accV, zs, gA.trans g4, S4, hD4, rA4, by rw [← eA, ← erest], er⟩
                | true =>
                  rw [if_pos rfl]
                  simp only [if_true] at ef
                  refine ⟨(C.hide D).xi, ρ4, s5, env', EnvR.mono eR' g4, S4, ?_⟩
                  cases ee : evE P call e env' s5 with
                  | exc c l s6 => rw [ee] at ef; cases ef
                  | err => rw [ee] at ef; cases ef
                  | ok y s6 =>
                    rw [ee] at ef
                    simp only [ret, R.ok.injEq] at ef
                    obtain ⟨rfl, rfl⟩ := ef
                    simp only [ocons] at erest
                    intro ρ5 H5 v5 g5 S5 r5
                    have hD5 : H5 D = some (.lst accV) := g5.keep D _ (outD _ _ _ S4) hD4 (fun _ q => by cases q)
                    have rA5 := Reps.mono g5 _ _ rA4
                    refine ⟨accV, hD5, ?_, ρ5, s6, accW ++ [y], accV ++ [v5], zs, ((gA.trans g4).trans g5).past hD (outD _ _ _ S5) _, SR.other S5 _, upd_same, ?_, ?_, er⟩
                    · rw [← rA5.length, ← line_eq]
                      have : ys.length = accW.length + (zs.length + 1) := by rw [← eA, ← erest]; simp
                      omega
                    · exact Reps.other _ _ _ (rA5.app (Reps.one r5))
                    · rw [← eA, ← erest]; simp
end
end G

set_option Elab.async false
set_option linter.all false
set_option autoImplicit false
set_option maxRecDepth 100000
set_option maxHeartbeats 2000000
/-! GL: a lambda handed to a teller. -/
namespace G
open PySem PySem.Spec PyProof.Rows L2 LamX
def noArgs (p : Arguments) : Bool := p.posonlyargs.isEmpty && p.args.isEmpty && p.vararg.isNone && p.kwonlyargs.isEmpty && p.kw_defaults.isEmpty && p.kwarg.isNone && p.defaults.isEmpty
theorem noArgs_ok {p : Arguments} (h : noArgs p = true) : p = { posonlyargs := [], args := [], vararg := none, kwonlyargs := [], kw_defaults := [], kwarg := none, defaults := [] } := by
  cases p
  simp only [noArgs, Bool.and_eq_true, List.isEmpty_iff, Option.isNone_iff_eq_none] at h
  obtain ⟨⟨⟨⟨⟨⟨h1, h2⟩, h3⟩, h4⟩, h5⟩, h6⟩, h7⟩ := h
  subst h1 h2 h3 h4 h5 h6 h7
  rfl
section
variable {X : Cx} {C : Cn} {P : Pg} {Nn : Nm} {d : Nat} {Wx : WX}
theorem gr_ext {ρ : List Addr} {H H1 : Hp} (e : ExtN H H1) : Gr ρ H ρ H1 := ⟨⟨[], by simp, fun _ h => nomatch h⟩, fun p o _ h hn => e p o h hn, fun p f o h => by
  by_cases hn : ∀ ps, o ≠ .tbl ps
  · exact (f.no (e p o h hn) hn).elim
  · simpa using hn⟩
theorem SR.ext {ρ : List Addr} {H H1 : Hp} {s : ST} (S : SR C ρ H s) (e : ExtN H H1) (t : Tabs C.T H1) : SR C ρ H1 s :=
  S.mono (gr_ext e) (fun p hp => by
    obtain ⟨vs, h⟩ := S.some hp
    rw [h]; exact e p _ h (fun _ q => by cases q)) t
theorem Ct.lam {k : Nat} (ct : Ct X C P Nn (k + 2) Wx) (A : Around) (outer : List PySem.Env) (s : Shared) (H : Hp) (E : XK) (scope : Scope) (f c' : Addr) (hr : Room k (A.deeper (lamEnv X scope s.heap.objs.size f c'))) :
    Ct (lamCx X A outer s H E scope f c') C P Nn.no k (fun cls d _ H => E cls d H) :=
  ⟨ct.hK, ct.nd, rfl, hr, takes_of rfl rfl rfl rfl, ct.blt, fun j hj n x hn => ct.fn j (by omega) n x hn, ct.cn, fun n x hn => ct.tb n x hn, fun n x hn => by simp [Nm.no] at hn⟩
theorem Sc.lam (A : Around) (outer : List PySem.Env) (s : Shared) (H : Hp) (E : XK) (scope : Scope) (f c' : Addr) : Sc (lamCx X A outer s H E scope f c') scope false :=
  { cf := fun x h => h
    st := fun x h => by
      rcases h with h | ⟨h, _⟩
      · exact ⟨.inl h, .inr h⟩
      · cases h
    vis := fun x h => h
    gl := fun x h => h
    loc := fun x h => h }
theorem log_small {i : Int} (h1 : -big < i) (h2 : i < big) : i.natAbs.log2 < 1920 := by
  have : i.natAbs < 2 ^ 64 := by
    have e : big = 2 ^ 64 := rfl
    omega
  by_cases h0 : i.natAbs = 0
  · rw [h0]; decide
  · exact Nat.lt_of_lt_of_le ((Nat.log2_lt h0).mpr this) (by decide)
theorem digs_len : ∀ (k n : Nat), n < 10 ^ (k + 1) → (Nat.toDigits 10 n).length ≤ k + 1
  | 0, n, h => by
    have : n < 10 := by simpa using h
    rw [Nat.toDigits_of_lt_base this]
    simp
  | k + 1, n, h => by
    by_cases hn : n < 10
    · rw [Nat.toDigits_of_lt_base hn]
      simp
    · have e := Nat.toDigits_of_base_le (b := 10) (n := n) (by omega) (by omega)
      rw [e, List.length_append]
      have := digs_len k (n / 10) (by
        rw [Nat.div_lt_iff_lt_mul (by omega)]
        rw [Nat.pow_succ] at h
        exact h)
      simp only [List.length_singleton]
      omega
theorem len_small {i : Int} (h1 : -big < i) (h2 : i < big) : (intStr i).length ≤ 30 := by
  have hb : i.natAbs < 10 ^ (20 + 1) := by
    have e : big = 2 ^ 64 := rfl
    have : i.natAbs < 2 ^ 64 := by omega
    exact Nat.lt_of_lt_of_le this (by decide)
  have hd := digs_len 20 i.natAbs hb
  unfold intStr digits
  split <;> simp <;> omega
theorem s_clo {n : Nat} {l : E} {x : Str} {params : Arguments} {body : Expr} {scope : Scope} {p lpos pos : Pos} (ct : Ct X C P Nn d Wx) (hn : Nn.tl[n]? = some x) (hg : Gl X x) (hdb : (x == ("__debug__" : Str)) = false) (L : LamS X.env.scope scope) (hp : noArgs params = true)
    (hbody : ∀ (k : Nat), d = k + 2 → ∀ (A : Around) (outer : List PySem.Env) (s : Shared) (H : Hp) (E : XK) (f c' : Addr), Room k (A.deeper (lamEnv X scope s.heap.objs.size f c')) → PE (lamCx X A outer s H E scope f c') body (tE C P (callD P k) (fun cls d _ H => E cls d H) l)) :
    PE X (.Call (.Name x p) [.Lambda params body scope lpos] [] pos) (tE C P (callD P d) Wx (.clo n l)) := by
  have small : (∀ k, d ≠ k + 2) → PE X (.Call (.Name x p) [.Lambda params body scope lpos] [] pos) (tE C P (callD P d) Wx (.clo n l)) := fun hd => ⟨fun pins st σ H Q I ⟨ρ, s, env, eR, S, h⟩ => by
    exfalso
    simp only [evE] at h
    unfold tellM G.bnd at h
    cases e : callD P d P.defs.length [] s with
    | ok w s' =>
      obtain ⟨k, hk, _⟩ := callD_gate e
      exact hd k hk
    | exc c l s' => exact callD_gateX e
    | err => rw [e] at h; exact h⟩
  match d, ct, hbody, small with
  | 0, ct, hbody, small => exact small fun k hk => by omega
  | 1, ct, hbody, small => exact small fun k hk => by omega
  | k + 2, ct, hbody, small =>
    have hpe := noArgs_ok hp
    subst hpe
    obtain ⟨⟨row, er, tk⟩, c, Pt, hcode, TB, hmT, hu⟩ := ct.lm n x hn
    obtain ⟨g, pg, bg, sg, kV, doc, pm, cdv, ctv, oc, an, od, osl, Ng, a, r0, h₀, hds, hs, p1, p2, p3, p5, p6, p8, j, e1, e2, e3, e4, e5, e6, e7, e8, e9, e10, e11, e12, e13, e14⟩ := tk.ex
    subst e11
    refine (pe_lamcall (T := C.T) (TT := TTell X.K hs) hg e1 e2 e3 e4 e5 e6 e7 e8 (tell_gives e6.nd e13 e12 (fun f => ?_)) TB hcode hmT hu ct.room L rfl (fun q cl pm cv ctv => rfl) (fun A outer s H E f c' hr => hbody k rfl A outer s H E f c' hr) hdb e9 e10).imp fun σ H Q ⟨ρ, s, env, eR, S, h⟩ => ?_
    · unfold L2.start; rfl
    refine ⟨S.tb, fun H1 ex tb => ?_⟩
    have g1 : Gr ρ H ρ H1 := gr_ext ex
    have S1 := S.ext ex tb
    refine ⟨ρ, s, env, eR.mono g1, S1, ?_⟩
    simp only [evE] at h
    rw [callD_more] at h
    unfold tellM G.bnd at h
    have gate : callD P (k + 2) P.defs.length [] s = .ok .non s := by
      have h1 : P.defs[P.defs.length]? = none := List.getElem?_eq_none (Nat.le_refl _)
      rw [callD]; simp only [h1, if_true]
    rw [gate] at h
    simp only at h
    cases ev : evE P (callD P k) l env s with
    | ok w s' =>
      rw [ev] at h
      exact fun ρ' H' v g S' r => h ρ' H' _ (g1.trans g) S' (Rep.mkS fun _ h => nomatch h)
    | exc c1 l1 s' =>
      rw [ev] at h
      simp only [er, Option.bind_some] at h
      intro ρ' H' ad dd g S' ec xr
      cases et : (row[c1]?).join with
      | none => rw [et] at h; exact h.elim
      | some t =>
        rw [et] at h
        have et' : row[c1]? = some (some t) := by
          cases z : row[c1]? with
          | none => rw [z] at et; cases et
          | some o => rw [z] at et; cases o with
            | none => cases et
            | some t' => simpa using et
        obtain ⟨z, q1, q2⟩ := e14 c1 t ad et' ec
        simp only at h
        cases ew : tellT t l1 with
        | none => rw [ew] at h; exact h.elim
        | some w =>
          rw [ew] at h
          refine tell_w q1 ?_
          have fin : ∀ v, Rep C ρ' H' w v → Q v H' := fun v r => h ρ' H' v (g1.trans g) S' r
          cases t with
          | txt t =>
            obtain ⟨rfl, ok⟩ := q2
            simp only [tellT, Option.some.injEq] at ew
            subst ew
            exact fin _ (Rep.mkS ok)
          | pre p =>
            obtain ⟨ok, f, i, hx, rfl⟩ := q2
            unfold ExR at xr
            rw [hx] at xr
            obtain ⟨dd', v, w', rfl, rfl, hd, r⟩ := xr
            unfold tellT at ew
            split at ew
            · rename_i q; cases q
            · rename_i q1 q2
              cases q1
              cases q2
              split at ew
              · rename_i hb
                cases ew
                have := r.int
                subst this
                refine ⟨ad, dd', _, _, rfl, rfl, hd, by simp [List.lookup], log_small hb.1 hb.2.1, ?_, fin _ (Rep.mkS fun c hc => ?_)⟩
                · have := len_small hb.1 hb.2.1
                  have := hb.2.2
                  unfold line
                  omega
                · rcases List.mem_append.mp hc with hc | hc
                  · exact ok c hc
                  · exact okS_int _ c hc
              · cases ew
            · rename_i q1 q2; cases q1
            · cases ew
          | fld =>
            obtain ⟨f, i, hx, rfl⟩ := q2
            unfold ExR at xr
            rw [hx] at xr
            obtain ⟨dd', v, w', rfl, rfl, hd, r⟩ := xr
            simp only [tellT, Option.some.injEq] at ew
            subst ew
            exact ⟨ad, dd', _, v, rfl, rfl, hd, by simp [List.lookup], fin _ r⟩
    | err => rw [ev] at h; exact h
end
end G

set_option Elab.async false
set_option linter.all false
set_option autoImplicit false
set_option maxRecDepth 100000
set_option maxHeartbeats 4000000
/-! G9: the checker of expressions, and that what it lets pass is sound. -/
namespace G
open PySem PySem.Spec PyProof.Rows L2
def notStar : Expr → Bool
  | .Starred .. => false
  | _ => true
def notCall : Expr → Bool
  | .Call .. => false
  | _ => true
def notSet : Expr → Bool
  | .Set .. => false
  | _ => true
def lookIs (sc : Scope) (x : Str) (k : NameKind) : Bool := sc.names.lookup x == some k
def isVis (sc : Scope) (x : Str) : Bool := lookIs sc x .local || lookIs sc x .cell || lookIs sc x .free
def okName (x : Str) : Bool := !(x == ("__debug__" : Str)) && !(x == ("__classdict__" : Str))
def ckK : W → Expr → Bool
  | .int i, .Constant (.int j) _ _ => i == j
  | .bl b, .Constant (.bool c) _ _ => b == c
  | .non, .Constant .none _ _ => true
  | .str l, .Constant (.str x) _ _ => x == strOf l && l.all (· < 0x110000)
  | _, _ => false
def tyNames : List String := ["int", "str", "bool", "tuple", "list"]
/-- the scope of a lambda without names of its own -/
def ckLam (sc scope : Scope) : Bool := (scope.kind == .function) && !scope.isCoroutine && !scope.isGenerator && scope.names.all fun y => !(y.2 == .local) && !(y.2 == .cell) && (!(y.2 == .free) || lookIs sc y.1 .cell || lookIs sc y.1 .free)
def ckBlk (N : List Str) (sc scope : Scope) (own : List (Str × Nat)) : Bool :=
  (scope.kind == .function) && scope.names.all (fun y => scope.names.lookup y.1 == some y.2) && own.all (fun p => N[p.2]? == some p.1) &&
  scope.names.all (fun y => !(y.2 == .free) || lookIs sc y.1 .cell || lookIs sc y.1 .free) &&
  scope.names.all (fun y => !(y.2 == .local || y.2 == .cell) || (own.map (·.1)).contains y.1 || !N.contains y.1)
def ownOf (N : List Str) (own : List Nat) : List (Str × Nat) := own.map fun i => (N.getD i "", i)
/-- whether a test of this form is its value's truth, or has a rule of its own -/
def ptOk : Expr → Bool
  | .Name .. | .Call .. | .Subscript .. | .Constant .. | .Compare .. | .BoolOp .. | .UnaryOp .Not _ _ => true
  | _ => false
def isStep (k : Int) : Expr → Bool
  | .Constant (.int j) _ _ => j == k && !(k == 0)
  | .UnaryOp .USub (.Constant (.int j) _ _) _ => k == -j && !(k == 0)
  | _ => false
def isOne : Expr → Bool
  | .Constant (.int j) _ _ => j == 1
  | _ => false
section
mutual
def ckE (Nn : Nm) (N : List Str) : Scope → E → Expr → Bool
  | sc, .var i, ex => match ex with
    | .Name x _ => N[i]? == some x && isVis sc x && okName x
    | _ => false
  | sc, .k w, ex => match w with
    | .ty t => match ex with
      | .Name x _ => x == Str.ofString t && lookIs sc x .globalImplicit && tyNames.contains t
      | _ => false
    | w => ckK w ex
  | sc, .glob n, ex => match ex with
    | .Name x _ => Nn.cns[n]? == some x && lookIs sc x .globalImplicit && okName x
    | _ => false
  | sc, .bin op a b, ex => match ex with
    | .BinOp l o r _ => o == bopO op && ckE Nn N sc a l && ckE Nn N sc b r
    | _ => false
  | sc, .neg a, ex => match ex with
    | .UnaryOp .USub e _ => ckE Nn N sc a e
    | _ => false
  | sc, .cmp op a b, ex => match ex with
    | .Compare l [o] [r] _ => o == copO op && ckE Nn N sc a l && ckE Nn N sc b r && notSet r
    | _ => false
  | sc, .chain op op' a b c, ex => match ex with
    | .Compare l [o, o'] [m, r] _ => o == copO op && o' == copO op' && ckE Nn N sc a l && ckE Nn N sc b m && ckE Nn N sc c r && notSet r
    | _ => false
  | sc, .and a b, ex => match ex with
    | .BoolOp .And [x, y] _ => ckE Nn N sc a x && ckE Nn N sc b y && ptOk x && ptOk y
    | .BoolOp .And (x :: y :: z :: rest) p => ckE Nn N sc a x && ckE Nn N sc b (.BoolOp .And (y :: z :: rest) p) && ptOk x
    | _ => false
  | sc, .or a b, ex => match ex with
    | .BoolOp .Or [x, y] _ => ckE Nn N sc a x && ckE Nn N sc b y && ptOk x && ptOk y
    | .BoolOp .Or (x :: y :: z :: rest) p => ckE Nn N sc a x && ckE Nn N sc b (.BoolOp .Or (y :: z :: rest) p) && ptOk x
    | _ => false
  | sc, .not a, ex => match ex with
    | .UnaryOp .Not e _ => ckE Nn N sc a e && ptOk e
    | _ => false
  | sc, .ife c a b, ex => match ex with
    | .IfExp c' a' b' _ => ckE Nn N sc c c' && ckE Nn N sc a a' && ckE Nn N sc b b' && ptOk c'
    | _ => false
  | sc, .tup l, ex => match ex with
    | .Tuple es _ _ => ckA Nn N sc l es
    | _ => false
  | sc, .htup l, ex => match ex with
    | .Tuple es _ _ => ckA Nn N sc l es
    | _ => false
  | sc, .lst l, ex => match ex with
    | .List es _ => ckA Nn N sc l es
    | _ => false
  | sc, .slx a lo hi k, ex => match ex with
    | .Subscript o (.Slice l h (some st) _) _ => isStep k st && ckE Nn N sc a o && ckO Nn N sc lo l && ckO Nn N sc hi h
    | _ => false
  | sc, .lzip a b, ex => match ex with
    | .Call (.Name x _) [.Call (.Name y _) [e, e'] [] _] [] _ => x == ("list" : Str) && y == ("zip" : Str) && lookIs sc x .globalImplicit && lookIs sc y .globalImplicit && ckE Nn N sc a e && ckE Nn N sc b e' && notStar e && notStar e'
    | _ => false
  | sc, .lens a, ex => match ex with
    | .Call (.Name x _) [.Call (.Name y _) [e] [] _] [] _ => x == ("len" : Str) && y == ("set" : Str) && lookIs sc x .globalImplicit && lookIs sc y .globalImplicit && ckE Nn N sc a e && notStar e
    | _ => false
  | sc, .mlst l, ex => match ex with
    | .List es _ => ckA Nn N sc l es
    | _ => false
  | sc, .sl a lo hi, ex => match ex with
    | .Subscript o (.Slice l h none _) _ => ckE Nn N sc a o && ckO Nn N sc lo l && ckO Nn N sc hi h
    | _ => false
  | sc, .rev a, ex => match ex with
    | .Subscript o (.Slice none none (some (.UnaryOp .USub j _)) _) _ => isOne j && ckE Nn N sc a o
    | _ => false
  | sc, .ix a b, ex => match ex with
    | .Subscript o i _ => ckE Nn N sc a o && ckE Nn N sc b i && plainIx i
    | _ => false
  | sc, .call n l, ex => match ex with
    | .Call (.Name x _) (e :: es) [] _ => Nn.fns[n]? == some x && lookIs sc x .globalImplicit && okName x && ckA Nn N sc l (e :: es)
    | _ => false
  | sc, .bi b l, ex => match ex with
    | .Call (.Name x _) (e :: es) [] _ => (match b with | .mlist => x == ("list" : Str) | b => match biN b with | some (y, _) => x == y | none => false) && lookIs sc x .globalImplicit && ckA Nn N sc l (e :: es)
    | _ => false
  | sc, .meth m o l, ex => match ex with
    | .Call (.Attribute o' mm apos) [e] [] cpos => (match m with | .append => mm == ("append" : Str) | .pop => mm == ("pop" : Str) | .join => mm == ("join" : Str) | .lstrip => mm == ("lstrip" : Str) | _ => false) && ckE Nn N sc o o' && ckA Nn N sc l [e] && notCall o' && apos.endLine == cpos.line
    | _ => false
  | sc, .lc t it ifs e own, ex => match ex with
    | .ListComp elt [⟨tg, iter, ifs', 0⟩] scope _ => ckBlk N sc scope (ownOf N own) && (tgV t).all (fun i => own.contains i) && ckT scope true N t tg && ckI Nn N sc it tg iter && ckB Nn N scope ifs ifs' && ckE Nn N scope e elt && notSet iter
    | _ => false
  | sc, .clo n l, ex => match ex with
    | .Call (.Name x _) [.Lambda params body scope _] [] _ => Nn.tl[n]? == some x && lookIs sc x .globalImplicit && okName x && ckLam sc scope && noArgs params && ckE Nn.no N scope l body
    | _ => false
  | sc, .dix n a, ex => match ex with
    | .Subscript (.Name x _) i _ => Nn.tbs[n]? == some x && lookIs sc x .globalImplicit && okName x && ckE Nn N sc a i && plainIx i
    | _ => false
  | sc, .din neg n a, ex => match ex with
    | .Compare l [o] [.Name x _] _ => Nn.tbs[n]? == some x && lookIs sc x .globalImplicit && okName x && ckE Nn N sc a l && o == (if neg = true then .NotIn else .In)
    | _ => false
  | sc, .nil, _ => true
  | _, _, _ => false
termination_by structural _ e => e
def ckA (Nn : Nm) (N : List Str) : Scope → E → List Expr → Bool
  | sc, .nil, l => match l with
    | [] => true
    | _ => false
  | sc, .cons a b, l => match l with
    | e :: es => ckE Nn N sc a e && ckA Nn N sc b es && notStar e
    | _ => false
  | _, _, _ => false
termination_by structural _ e => e
def ckO (Nn : Nm) (N : List Str) : Scope → E → Option Expr → Bool
  | sc, .no, o => match o with
    | none => true
    | _ => false
  | sc, .itr a, o => match o with
    | some e => ckE Nn N sc a e
    | _ => false
  | _, _, _ => false
termination_by structural _ e => e
def ckB (Nn : Nm) (N : List Str) : Scope → E → List Expr → Bool
  | sc, .nil, l => match l with
    | [] => true
    | _ => false
  | sc, .cons a b, l => match l with
    | [e] => ckE Nn N sc a e && ptOk e && (match b with | .nil => true | _ => false)
    | _ => false
  | _, _, _ => false
termination_by structural _ e => e
def ckI (Nn : Nm) (N : List Str) : Scope → E → Expr → Expr → Bool
  | sc, .itr a, _, e => ckE Nn N sc a e
  | sc, .enum a, tg, ex => match tg, ex with
    | .Tuple _ _ _, .Call (.Name x _) [e] [] _ => x == ("enumerate" : Str) && lookIs sc x .globalImplicit && ckE Nn N sc a e && notStar e
    | _, _ => false
  | sc, .zip a b, tg, ex => match tg, ex with
    | .Tuple _ _ _, .Call (.Name x _) [e, e'] [] _ => x == ("zip" : Str) && lookIs sc x .globalImplicit && ckE Nn N sc a e && ckE Nn N sc b e' && notStar e && notStar e'
    | _, _ => false
  | sc, .rng l, _, ex => match ex with
    | .Call (.Name x _) [e] [] _ => x == ("range" : Str) && lookIs sc x .globalImplicit && ckA Nn N sc l [e]
    | .Call (.Name x _) [e, e'] [] _ => x == ("range" : Str) && lookIs sc x .globalImplicit && ckA Nn N sc l [e, e']
    | _ => false
  | sc, .nil, _, _ => true
  | _, _, _, _ => false
termination_by structural _ e => e
end
end
/-! lemmas of the forms -/
theorem star_cons {e : Expr} {es : List Expr} {env : PySem.Env} (h : notStar e = true) : starEach (e :: es) env = (false, eval e env) :: starEach es env := by
  cases e <;> first | rfl | (simp [notStar] at h)
theorem mark_no {op : CmpOp} {e : Expr} (h : notSet e = true) : behindInMarks op e = false := by
  cases e <;> first | rfl | (simp [notSet] at h)
theorem plain_ix {e : Expr} (h : plainIx e = true) : PlainIx e ∧ NoSl e := by
  cases e <;> first | exact ⟨fun _ _ => rfl, fun _ _ => rfl⟩ | (simp [plainIx] at h)
theorem base_of {e : Expr} {m : Str} {env : PySem.Env} (h : notCall e = true) : attributeBase e m env (eval e env) = eval e env := by
  cases e <;> first | rfl | (simp [notCall] at h)
theorem fold_no {e : Expr} {env : PySem.Env} (h : notSet e = true) : ∀ x, foldedSetIterable e env x = pure x := by
  cases e <;> first | (intro x; rfl) | (simp [notSet] at h)
section
variable {Nn : Nm} {N : List Str}
theorem ckA_star : ∀ {sc : Scope} {l : E} {es : List Expr} {env : PySem.Env} {pos : Pos}, ckA Nn N sc l es = true → (backTo pos (starEach es env)).any (·.1) = false
  | sc, .nil, es, env, pos, h => by
    simp only [ckA] at h
    split at h
    · rfl
    · cases h
  | sc, .cons a b, es, env, pos, h => by
    simp only [ckA] at h
    split at h
    · rename_i e es'
      simp only [Bool.and_eq_true] at h
      rw [star_cons h.2]
      have := ckA_star (env := env) (pos := pos) h.1.2
      simp only [backTo, List.map_cons, List.any_cons, Bool.false_eq_true, if_false, Bool.false_or]
      exact this
    · cases h
  | sc, .var _, _, _, _, h | sc, .k _, _, _, _, h | sc, .glob _, _, _, _, h | sc, .fnv _, _, _, _, h | sc, .bin .., _, _, _, h | sc, .neg _, _, _, _, h | sc, .cmp .., _, _, _, h | sc, .chain .., _, _, _, h | sc, .and .., _, _, _, h | sc, .or .., _, _, _, h | sc, .not _, _, _, _, h
  | sc, .ife .., _, _, _, h | sc, .tup _, _, _, _, h | sc, .htup _, _, _, _, h | sc, .lens _, _, _, _, h | sc, .lst _, _, _, _, h | sc, .mlst _, _, _, _, h | sc, .dix .., _, _, _, h | sc, .din .., _, _, _, h | sc, .ix .., _, _, _, h | sc, .sl .., _, _, _, h | sc, .slx .., _, _, _, h | sc, .no, _, _, _, h | sc, .rev _, _, _, _, h | sc, .call .., _, _, _, h | sc, .bi .., _, _, _, h | sc, .meth .., _, _, _, h
  | sc, .lc .., _, _, _, h | sc, .lzip .., _, _, _, h | sc, .lrng _, _, _, _, h | sc, .rng _, _, _, _, h | sc, .enum _, _, _, _, h | sc, .zip .., _, _, _, h | sc, .itr _, _, _, _, h | sc, .clo .., _, _, _, h => by simp [ckA] at h
theorem ckA_head {sc : Scope} {l : E} {e : Expr} {es : List Expr} (h : ckA Nn N sc l (e :: es) = true) : notStar e = true := by
  cases l <;> simp only [ckA, Bool.false_eq_true, Bool.and_eq_true] at h
  exact h.2
theorem ckA_tail {sc : Scope} {l : E} {e : Expr} {es : List Expr} {env : PySem.Env} {pos : Pos} (h : ckA Nn N sc l (e :: es) = true) : (backTo pos (starEach es env)).any (·.1) = false := by
  cases l <;> simp only [ckA, Bool.false_eq_true, Bool.and_eq_true] at h
  exact ckA_star h.1.2
theorem ckA_one {sc : Scope} {l : E} {e : Expr} (h : ckA Nn N sc l [e] = true) : ∃ a, l = .cons a .nil ∧ ckE Nn N sc a e = true ∧ notStar e = true := by
  cases l <;> simp only [ckA, Bool.false_eq_true, Bool.and_eq_true] at h
  rename_i a b
  cases b <;> simp only [ckA, Bool.false_eq_true, false_and, and_false] at h
  exact ⟨a, rfl, h.1.1, h.2⟩
theorem ckA_two {sc : Scope} {l : E} {e e' : Expr} (h : ckA Nn N sc l [e, e'] = true) : ∃ a b, l = .cons a (.cons b .nil) ∧ ckE Nn N sc a e = true ∧ notStar e = true ∧ ckE Nn N sc b e' = true ∧ notStar e' = true := by
  cases l <;> simp only [ckA, Bool.false_eq_true, Bool.and_eq_true] at h
  rename_i a b
  obtain ⟨b', rfl, h1, h2⟩ := ckA_one h.1.2
  exact ⟨a, b', rfl, h.1.1, h.2, h1, h2⟩
end
/-! a comprehension's block as a place to stand -/
section
variable {X : Cx} {C : Cn} {P : Pg} {Nn : Nm} {d : Nat} {Wx : WX}
theorem Ct.blk (ct : Ct X C P Nn d Wx) (xi : Addr → Prop) (s : Shared) (H : Hp) (scope : Scope) (cenv : PySem.Env) (fp : List Addr) (hq : cenv.qual = X.env.qual := by rfl) (hc : cenv.code = X.env.code := by rfl) : Ct (X.blk s H scope cenv fp) (C.at xi) P Nn d WF :=
  ⟨ct.hK, ct.nd, ct.calm, ct.room, L2.takes0, ct.blt, ct.fn, ct.cn, fun n x hn => ⟨(ct.tb n x hn).ex⟩, fun n x hn => by
    obtain ⟨⟨row, er, tk⟩, c, Pt, h1, h2, h3, h4⟩ := ct.lm n x hn
    refine ⟨⟨row, er, ⟨tk.ex⟩⟩, c, Pt, hc.trans h1, h2, ?_, ?_⟩
    · show (Pt, cenv.qual ++ "<lambda>") ∈ C.T
      rw [hq]; exact h3
    · show ∀ p ∈ C.T, p.1 = Pt → p.2 = cenv.qual ++ "<lambda>"
      rw [hq]; exact h4⟩
theorem look_map (f : Str → NameKind → NameKind) : ∀ (names : List (Str × NameKind)) (x : Str), (names.map fun (n, k) => (n, f n k)).lookup x = (names.lookup x).map (f x)
  | [], x => rfl
  | (n, k) :: r, x => by
    have ih := look_map f r x
    simp only [List.map_cons, List.lookup]
    cases e : x == n with
    | true =>
      have : x = n := by simpa using e
      subst this; rfl
    | false => exact ih
theorem look_relabel (scope : Scope) (env : PySem.Env) (x : Str) : (relabel scope env).names.lookup x = (scope.names.lookup x).map fun k => if (k == .free && env.scope.kind == .function && env.kindOf x == some .cell) then .cell else k := by
  have := look_map (fun n k => if (k == .free && env.scope.kind == .function && env.kindOf n == some .cell) then NameKind.cell else k) scope.names x
  rw [← this]
  unfold relabel
  congr 1
  apply List.map_congr_left
  intro p _
  obtain ⟨n, k⟩ := p
  show (if _ then (n, NameKind.cell) else (n, k)) = (n, if _ then NameKind.cell else k)
  split <;> rfl
theorem Sc.blk {scope : Scope} (s : Shared) (H : Hp) (D : Addr) (cl : List (Str × Addr)) (fp : List Addr) : Sc (X.blk s H scope (compEnvC scope cl D X.env) fp) scope true := by
  have lk : ∀ x, (compEnvC scope cl D X.env).scope.names.lookup x = (scope.names.lookup x).map fun k => if (k == .free && X.env.scope.kind == .function && X.env.kindOf x == some .cell) then .cell else k := fun x => look_relabel scope X.env x
  have cf : ∀ x, scope.names.lookup x = some .cell ∨ scope.names.lookup x = some .free → (compEnvC scope cl D X.env).scope.names.lookup x = some .cell ∨ (compEnvC scope cl D X.env).scope.names.lookup x = some .free := fun x h => by
    rw [lk]
    rcases h with h | h
    · rw [h]; left; rfl
    · rw [h]
      show some (if _ then NameKind.cell else NameKind.free) = _ ∨ some (if _ then NameKind.cell else NameKind.free) = _
      split
      · exact .inl rfl
      · exact .inr rfl
  have lo : ∀ x, scope.names.lookup x = some .local → (compEnvC scope cl D X.env).scope.names.lookup x = some .local := fun x h => by
    rw [lk, h]; rfl
  refine ⟨cf, fun x h => ?_, fun x h => ?_, fun x h => ?_, lo⟩
  · rcases h with h | ⟨_, h⟩
    · exact ⟨.inl (lo x h), .inr (lo x h)⟩
    · refine ⟨.inr ?_, .inl ?_⟩
      · show (compEnvC scope cl D X.env).scope.names.lookup x = some .cell
        rw [lk, h]; rfl
      · show (scope.names.lookup x == some NameKind.cell) = true
        rw [h]; rfl
  · rcases h with h | h
    · exact .inl (lo x h)
    · exact .inr (cf x h)
  · show (compEnvC scope cl D X.env).kindOf x = some .globalImplicit
    show (compEnvC scope cl D X.env).scope.names.lookup x = _
    rw [lk, h]; rfl
theorem blk_ok {sc scope : Scope} {cl : Bool} {own : List (Str × Nat)} (Q : Sc X sc cl) (h : ckBlk X.N sc scope own = true) : BlkOk X.N X.env.scope scope own := by
  simp only [ckBlk, Bool.and_eq_true, List.all_eq_true, beq_iff_eq, Bool.or_eq_true, Bool.not_eq_true', lookIs] at h
  obtain ⟨⟨⟨⟨h1, h2⟩, h3⟩, h4⟩, h5⟩ := h
  refine ⟨h1, fun y hy => h2 y hy, fun p hp => h3 p hp, fun y hy hf => ?_, fun y hy hl => ?_⟩
  · have := h4 y hy
    rw [hf] at this
    exact Q.cf y.1 (by simpa using this)
  · have := h5 y hy
    rcases this with (h | h) | h
    · rcases hl with hl | hl <;> rw [hl] at h <;> simp at h
    · exact .inl (by simpa using h)
    · exact .inr (by simpa using h)
theorem lam_ok {sc scope : Scope} {cl : Bool} (Q : Sc X sc cl) (h : ckLam sc scope = true) : LamX.LamS X.env.scope scope := by
  simp only [ckLam, Bool.and_eq_true, List.all_eq_true, beq_iff_eq, Bool.or_eq_true, Bool.not_eq_true', lookIs] at h
  obtain ⟨⟨⟨h1, h2⟩, h3⟩, h4⟩ := h
  refine ⟨h1, h2, h3, fun y hy => ⟨fun e => ?_, fun e => ?_⟩, fun y hy hf => Q.cf y.1 ?_⟩
  · have := (h4 y hy).1.1
    rw [e] at this; cases this
  · have := (h4 y hy).1.2
    rw [e] at this; cases this
  · have := (h4 y hy).2
    rw [hf] at this
    simpa using this
def Snd (X : Cx) (C : Cn) (P : Pg) (d : Nat) (Wx : WX) (ir : E) (e : Expr) : Prop :=
  PE X e (tE C P (callD P d) Wx ir) ∧ (ptOk e = true → PT X e (tT C P (callD P d) Wx ir)) ∧ (∀ op x y rest p, e = .BoolOp op (x :: y :: rest) p → PW X e (tT C P (callD P d) Wx ir))
/-- an expression that is never reached -/
theorem bad_E {σ : L2.St} {H : Hp} {Q : L2.VK} (q : tE C P (callD P d) Wx .nil σ H Q) : False := by
  obtain ⟨ρ, s, env, _, _, h⟩ := q
  exact h
theorem bad_T {σ : L2.St} {H : Hp} {Q : Bool → Hp → Prop} (q : tT C P (callD P d) Wx .nil σ H Q) : False := by
  obtain ⟨ρ, s, env, _, _, h⟩ := q
  exact h
theorem snd_bad {e : Expr} : Snd X C P d Wx .nil e :=
  ⟨⟨fun _ _ _ _ _ _ q => (bad_E q).elim⟩, fun _ => ⟨fun _ _ _ _ _ _ q => (bad_T q).elim⟩, fun _ _ _ _ _ _ => ⟨fun _ _ _ _ _ _ _ q => (bad_T q).elim⟩⟩
theorem pi_bad {tg e : Expr} : PI X tg e (tI C P (callD P d) Wx .nil) := ⟨fun _ _ _ _ _ _ q => by
  obtain ⟨ρ, s, env, _, _, h⟩ := q
  exact h.elim⟩
theorem snd_val {ir : E} {e : Expr} (h : PE X e (tE C P (callD P d) Wx ir)) (he : ∀ whole, isTrue e X.env whole = (do let v ← whole; standAt e.pos; holding [v] (truthy v))) (hb : ∀ op x y rest p, e ≠ .BoolOp op (x :: y :: rest) p) : Snd X C P d Wx ir e :=
  ⟨h, fun _ => (pt_val h he).imp fun σ H Q q => q.val, fun op x y rest p q => (hb op x y rest p q).elim⟩
theorem snd_no {ir : E} {e : Expr} (h : PE X e (tE C P (callD P d) Wx ir)) (ho : ptOk e = false) : Snd X C P d Wx ir e :=
  ⟨h, fun q => (by rw [ho] at q; cases q), fun op x y rest p q => by subst q; simp [ptOk] at ho⟩
theorem snd_pt {ir : E} {e : Expr} (h : PE X e (tE C P (callD P d) Wx ir) ∧ PT X e (tT C P (callD P d) Wx ir)) (hb : ∀ op x y rest p, e ≠ .BoolOp op (x :: y :: rest) p) : Snd X C P d Wx ir e :=
  ⟨h.1, fun _ => h.2, fun op x y rest p q => (hb op x y rest p q).elim⟩
theorem snd_pw {ir : E} {e : Expr} (h : PE X e (tE C P (callD P d) Wx ir) ∧ PW X e (tT C P (callD P d) Wx ir)) : Snd X C P d Wx ir e :=
  ⟨h.1, fun _ => h.2.pt, fun _ _ _ _ _ _ => h.2⟩
theorem ty_rep {t : String} {xi : Addr → Prop} {ρ : List Addr} {H : Hp} : Rep (C.at xi) ρ H (.ty t) (.ty t) := by simp only [Rep]
theorem ckK_snd {w : W} {e : Expr} (h : ckK w e = true) : ∃ v, PE X e (tC v) ∧ (∀ ρ H, Rep C ρ H w v) ∧ (∀ whole, isTrue e X.env whole = (do let v ← whole; standAt e.pos; holding [v] (truthy v))) ∧ ∀ op x y rest p, e ≠ .BoolOp op (x :: y :: rest) p := by
  unfold ckK at h
  split at h
  · have := eq_of_beq h
    subst this
    exact ⟨_, pe_int, fun _ _ => Rep.mkI, fun _ => rfl, fun _ _ _ _ _ q => by cases q⟩
  · have := eq_of_beq h
    subst this
    exact ⟨_, pe_bl, fun _ _ => Rep.mkB, fun _ => rfl, fun _ _ _ _ _ q => by cases q⟩
  · exact ⟨_, pe_non, fun _ _ => Rep.mkN, fun _ => rfl, fun _ _ _ _ _ q => by cases q⟩
  · simp only [Bool.and_eq_true, beq_iff_eq, List.all_eq_true, decide_eq_true_eq] at h
    obtain ⟨rfl, h2⟩ := h
    exact ⟨_, pe_str, fun _ _ => Rep.mkS h2, fun _ => rfl, fun _ _ _ _ _ q => by cases q⟩
  · cases h
theorem boot_ty {t : String} (h : tyNames.contains t = true) : bootBuiltins (Str.ofString t) = some (.type t) ∧ Str.ofString t ≠ "__name__" ∧ (Str.ofString t == ("__debug__" : Str)) = false ∧ Str.ofString t ∈ bnames := by
  have : t = "int" ∨ t = "str" ∨ t = "bool" ∨ t = "tuple" ∨ t = "list" := by simpa [tyNames] using h
  rcases this with rfl | rfl | rfl | rfl | rfl <;> decide +kernel
theorem okName_of {x : Str} (h : okName x = true) : (x == ("__debug__" : Str)) = false ∧ (x == ("__classdict__" : Str)) = false := by
  simp only [okName, Bool.and_eq_true, Bool.not_eq_true'] at h
  exact h
theorem vis_of {sc : Scope} {cl : Bool} {x : Str} (Q : Sc X sc cl) (h : isVis sc x = true) : Vis X.env.scope x := by
  simp only [isVis, lookIs, Bool.or_eq_true, beq_iff_eq] at h
  exact Q.vis x (by rcases h with (h | h) | h; exact .inl h; exact .inr (.inl h); exact .inr (.inr h))
theorem gl_of {sc : Scope} {cl : Bool} {x : Str} (Q : Sc X sc cl) (h : lookIs sc x .globalImplicit = true) : Gl X x := Q.gl x (by simpa [lookIs] using h)
end
end G

set_option Elab.async false
set_option linter.all false
set_option autoImplicit false
set_option maxRecDepth 100000
set_option maxHeartbeats 4000000
/-! GA: what the checker of expressions lets pass is sound. -/
namespace G
open PySem PySem.Spec PyProof.Rows L2 LamX
section
variable {P : Pg}
theorem few_one {e : Expr} {env : PySem.Env} {cpos : Pos} (h : notStar e = true) : ((backTo cpos (starEach [e] env)).all (fun x => !x.1) && (backToKw cpos (keywordEach [] env)).all (fun x => x.1.isSome) && decide ([e].length + ([] : List Keyword).length + (if ([] : List Keyword).isEmpty then 0 else 1) < 30)) = true := by
  rw [star_cons h]; rfl
mutual
theorem sndE : ∀ (ir : E) (e : Expr) (Nn : Nm) (d : Nat) (X : Cx) (C : Cn) (Wx : WX) (sc : Scope) (cl : Bool), Ct X C P Nn d Wx → Sc X sc cl → ckE Nn X.N sc ir e = true → Snd X C P d Wx ir e
  | .var i, e, Nn, d, X, C, Wx, sc, cl, ct, Q, h => by
    simp only [ckE] at h
    split at h
    · simp only [Bool.and_eq_true, beq_iff_eq] at h
      obtain ⟨⟨h1, h2⟩, h3⟩ := h
      obtain ⟨h4, h5⟩ := okName_of h3
      exact snd_val (s_var h1 (vis_of Q h2) h4 h5) (fun _ => rfl) fun _ _ _ _ _ q => by cases q
    · cases h
  | .k w, e, Nn, d, X, C, Wx, sc, cl, ct, Q, h => by
    simp only [ckE] at h
    split at h
    · rename_i t
      split at h
      · simp only [Bool.and_eq_true, beq_iff_eq] at h
        obtain ⟨⟨rfl, h2⟩, h3⟩ := h
        obtain ⟨b1, b2, b3, b4⟩ := boot_ty h3
        exact snd_val (s_const (fun ρ H => ty_rep (xi := C.xi)) (pe_bltn (gl_of Q h2) (ct.blt _ b4) b1 rfl b2 b3)) (fun _ => rfl) fun _ _ _ _ _ q => by cases q
      · cases h
    · obtain ⟨v, h1, h2, h3, h4⟩ := ckK_snd (X := X) (C := C) h
      exact snd_val (s_const h2 h1) h3 h4
  | .glob n, e, Nn, d, X, C, Wx, sc, cl, ct, Q, h => by
    simp only [ckE] at h
    split at h
    · simp only [Bool.and_eq_true, beq_iff_eq] at h
      obtain ⟨⟨h1, h2⟩, h3⟩ := h
      exact snd_val (s_glob ct h1 (gl_of Q h2) (okName_of h3).1) (fun _ => rfl) fun _ _ _ _ _ q => by cases q
    · cases h
  | .bin op a b, e, Nn, d, X, C, Wx, sc, cl, ct, Q, h => by
    simp only [ckE] at h
    split at h
    · simp only [Bool.and_eq_true, beq_iff_eq] at h
      obtain ⟨⟨rfl, h2⟩, h3⟩ := h
      exact snd_no (s_bin ct (sndE a _ _ _ X C Wx sc cl ct Q h2).1 (sndE b _ _ _ X C Wx sc cl ct Q h3).1) rfl
    · cases h
  | .neg a, e, Nn, d, X, C, Wx, sc, cl, ct, Q, h => by
    simp only [ckE] at h
    split at h
    · exact snd_no (s_neg (sndE a _ _ _ X C Wx sc cl ct Q h).1) rfl
    · cases h
  | .cmp op a b, e, Nn, d, X, C, Wx, sc, cl, ct, Q, h => by
    simp only [ckE] at h
    split at h
    · simp only [Bool.and_eq_true, beq_iff_eq] at h
      obtain ⟨⟨⟨rfl, h2⟩, h3⟩, h4⟩ := h
      exact snd_pt (s_cmp ct (sndE a _ _ _ X C Wx sc cl ct Q h2).1 (sndE b _ _ _ X C Wx sc cl ct Q h3).1 (mark_no h4)) fun _ _ _ _ _ q => by cases q
    · cases h
  | .chain op op' a b c, e, Nn, d, X, C, Wx, sc, cl, ct, Q, h => by
    simp only [ckE] at h
    split at h
    · simp only [Bool.and_eq_true, beq_iff_eq] at h
      obtain ⟨⟨⟨⟨⟨rfl, rfl⟩, h2⟩, h3⟩, h4⟩, h5⟩ := h
      exact snd_pt (s_chain ct (sndE a _ _ _ X C Wx sc cl ct Q h2).1 (sndE b _ _ _ X C Wx sc cl ct Q h3).1 (sndE c _ _ _ X C Wx sc cl ct Q h4).1 (show behindInMarks _ _ = false from mark_no h5)) fun _ _ _ _ _ q => by cases q
    · cases h
  | .and a b, e, Nn, d, X, C, Wx, sc, cl, ct, Q, h => by
    simp only [ckE] at h
    split at h
    · simp only [Bool.and_eq_true] at h
      obtain ⟨⟨⟨h1, h2⟩, h3⟩, h4⟩ := h
      have A := sndE a _ _ _ X C Wx sc cl ct Q h1
      have B := sndE b _ _ _ X C Wx sc cl ct Q h2
      exact snd_pw (s_and A.1 (A.2.1 h3) (pe_one B.1) (pw_and1 (B.2.1 h4)))
    · simp only [Bool.and_eq_true] at h
      obtain ⟨⟨h1, h2⟩, h3⟩ := h
      have A := sndE a _ _ _ X C Wx sc cl ct Q h1
      have B := sndE b _ _ _ X C Wx sc cl ct Q h2
      exact snd_pw (s_and A.1 (A.2.1 h3) B.1 (B.2.2 _ _ _ _ _ rfl))
    · cases h
  | .or a b, e, Nn, d, X, C, Wx, sc, cl, ct, Q, h => by
    simp only [ckE] at h
    split at h
    · simp only [Bool.and_eq_true] at h
      obtain ⟨⟨⟨h1, h2⟩, h3⟩, h4⟩ := h
      have A := sndE a _ _ _ X C Wx sc cl ct Q h1
      have B := sndE b _ _ _ X C Wx sc cl ct Q h2
      exact snd_pw (s_or A.1 (A.2.1 h3) (pe_one B.1) (pw_or1 (B.2.1 h4)))
    · simp only [Bool.and_eq_true] at h
      obtain ⟨⟨h1, h2⟩, h3⟩ := h
      have A := sndE a _ _ _ X C Wx sc cl ct Q h1
      have B := sndE b _ _ _ X C Wx sc cl ct Q h2
      exact snd_pw (s_or A.1 (A.2.1 h3) B.1 (B.2.2 _ _ _ _ _ rfl))
    · cases h
  | .not a, e, Nn, d, X, C, Wx, sc, cl, ct, Q, h => by
    simp only [ckE] at h
    split at h
    · simp only [Bool.and_eq_true] at h
      have A := sndE a _ _ _ X C Wx sc cl ct Q h.1
      exact snd_pt (s_not A.1 (A.2.1 h.2)) fun _ _ _ _ _ q => by cases q
    · cases h
  | .ife c a b, e, Nn, d, X, C, Wx, sc, cl, ct, Q, h => by
    simp only [ckE] at h
    split at h
    · simp only [Bool.and_eq_true] at h
      obtain ⟨⟨⟨h1, h2⟩, h3⟩, h4⟩ := h
      exact snd_no (s_ife ((sndE c _ _ _ X C Wx sc cl ct Q h1).2.1 h4) (sndE a _ _ _ X C Wx sc cl ct Q h2).1 (sndE b _ _ _ X C Wx sc cl ct Q h3).1) rfl
    · cases h
  | .tup l, e, Nn, d, X, C, Wx, sc, cl, ct, Q, h => by
    simp only [ckE] at h
    split at h
    · exact snd_no (s_tup (sndA l _ _ _ X C Wx sc cl ct Q h)) rfl
    · cases h
  | .htup l, e, Nn, d, X, C, Wx, sc, cl, ct, Q, h => by
    simp only [ckE] at h
    split at h
    · exact snd_no (s_htup (sndA l _ _ _ X C Wx sc cl ct Q h)) rfl
    · cases h
  | .slx a lo hi k, e, Nn, d, X, C, Wx, sc, cl, ct, Q, h => by
    simp only [ckE] at h
    split at h
    · simp only [Bool.and_eq_true] at h
      obtain ⟨⟨⟨h1, h2⟩, h3⟩, h4⟩ := h
      refine snd_val ?_ (fun _ => rfl) fun _ _ _ _ _ q => by cases q
      have A := (sndE a _ _ _ X C Wx sc cl ct Q h2).1
      have L := sndO lo _ _ _ X C Wx sc cl ct Q h3
      have U := sndO hi _ _ _ X C Wx sc cl ct Q h4
      unfold isStep at h1
      split at h1
      · simp only [Bool.and_eq_true, beq_iff_eq, Bool.not_eq_true', beq_eq_false_iff_ne] at h1
        obtain ⟨rfl, h0⟩ := h1
        exact s_slx A L U (po_some pe_int) (fun σ H => ⟨_, rfl, rfl, rfl⟩) h0
      · simp only [Bool.and_eq_true, beq_iff_eq, Bool.not_eq_true', beq_eq_false_iff_ne] at h1
        obtain ⟨rfl, h0⟩ := h1
        exact s_slx A L U (po_some (pe_un un_neg pe_int)) (fun σ H => ⟨_, rfl, _, rfl, rfl, rfl⟩) h0
      · cases h1
    · cases h
  | .lzip a b, e, Nn, d, X, C, Wx, sc, cl, ct, Q, h => by
    simp only [ckE] at h
    split at h
    · simp only [Bool.and_eq_true, beq_iff_eq] at h
      obtain ⟨⟨⟨⟨⟨⟨⟨rfl, rfl⟩, h1⟩, h2⟩, h3⟩, h4⟩, h5⟩, h6⟩ := h
      exact snd_val (s_lzip ct (gl_of Q h1) (gl_of Q h2) (sndE a _ _ _ X C Wx sc cl ct Q h3).1 (sndE b _ _ _ X C Wx sc cl ct Q h4).1 (by rw [star_cons h5]) (star_cons h6) (by rw [star_cons h6]; rfl)) (fun _ => rfl) fun _ _ _ _ _ q => by cases q
    · cases h
  | .lens a, e, Nn, d, X, C, Wx, sc, cl, ct, Q, h => by
    simp only [ckE] at h
    split at h
    · simp only [Bool.and_eq_true, beq_iff_eq] at h
      obtain ⟨⟨⟨⟨⟨rfl, rfl⟩, h1⟩, h2⟩, h3⟩, h4⟩ := h
      exact snd_val (s_lenset ct (gl_of Q h1) (gl_of Q h2) (sndE a _ _ _ X C Wx sc cl ct Q h3).1 (star_cons h4)) (fun _ => rfl) fun _ _ _ _ _ q => by cases q
    · cases h
  | .lst l, e, Nn, d, X, C, Wx, sc, cl, ct, Q, h => by
    simp only [ckE] at h
    split at h
    · exact snd_no (s_lst (sndA l _ _ _ X C Wx sc cl ct Q h)) rfl
    · cases h
  | .mlst l, e, Nn, d, X, C, Wx, sc, cl, ct, Q, h => by
    simp only [ckE] at h
    split at h
    · exact snd_no (s_mlst (sndA l _ _ _ X C Wx sc cl ct Q h)) rfl
    · cases h
  | .sl a lo hi, e, Nn, d, X, C, Wx, sc, cl, ct, Q, h => by
    simp only [ckE] at h
    split at h
    · simp only [Bool.and_eq_true] at h
      obtain ⟨⟨h1, h2⟩, h3⟩ := h
      exact snd_val (s_sl ct (sndE a _ _ _ X C Wx sc cl ct Q h1).1 (sndO lo _ _ _ X C Wx sc cl ct Q h2) (sndO hi _ _ _ X C Wx sc cl ct Q h3)) (fun _ => rfl) fun _ _ _ _ _ q => by cases q
    · cases h
  | .rev a, e, Nn, d, X, C, Wx, sc, cl, ct, Q, h => by
    simp only [ckE] at h
    split at h
    · simp only [Bool.and_eq_true] at h
      obtain ⟨h1, h2⟩ := h
      unfold isOne at h1
      split at h1
      · have := eq_of_beq h1
        subst this
        exact snd_val (s_rev (sndE a _ _ _ X C Wx sc cl ct Q h2).1) (fun _ => rfl) fun _ _ _ _ _ q => by cases q
      · cases h1
    · cases h
  | .dix n a, e, Nn, d, X, C, Wx, sc, cl, ct, Q, h => by
    simp only [ckE] at h
    split at h
    · simp only [Bool.and_eq_true, beq_iff_eq] at h
      obtain ⟨⟨⟨⟨h1, h2⟩, h3⟩, h4⟩, h5⟩ := h
      exact snd_val (s_dix ct h1 (gl_of Q h2) (okName_of h3).1 (sndE a _ _ _ X C Wx sc cl ct Q h4).1 (plain_ix h5).1) (fun _ => rfl) fun _ _ _ _ _ q => by cases q
    · cases h
  | .din neg n a, e, Nn, d, X, C, Wx, sc, cl, ct, Q, h => by
    simp only [ckE] at h
    split at h
    · simp only [Bool.and_eq_true, beq_iff_eq] at h
      obtain ⟨⟨⟨⟨h1, h2⟩, h3⟩, h4⟩, rfl⟩ := h
      exact snd_pt (s_din ct h1 (gl_of Q h2) (okName_of h3).1 (sndE a _ _ _ X C Wx sc cl ct Q h4).1) fun _ _ _ _ _ q => by cases q
    · cases h
  | .ix a b, e, Nn, d, X, C, Wx, sc, cl, ct, Q, h => by
    simp only [ckE] at h
    split at h
    · simp only [Bool.and_eq_true] at h
      obtain ⟨⟨h1, h2⟩, h3⟩ := h
      obtain ⟨p1, p2⟩ := plain_ix h3
      exact snd_val (s_ix ct (sndE a _ _ _ X C Wx sc cl ct Q h1).1 (sndE b _ _ _ X C Wx sc cl ct Q h2).1 p1 p2) (fun _ => rfl) fun _ _ _ _ _ q => by cases q
    · cases h
  | .call n l, e, Nn, d, X, C, Wx, sc, cl, ct, Q, h => by
    simp only [ckE] at h
    split at h
    · simp only [Bool.and_eq_true, beq_iff_eq] at h
      obtain ⟨⟨⟨h1, h2⟩, h3⟩, h4⟩ := h
      have st := ckA_head h4
      exact snd_val (s_call ct h1 (gl_of Q h2) (okName_of h3).1 (sndA l _ _ _ X C Wx sc cl ct Q h4) (star_cons st) (ckA_tail h4)) (fun _ => rfl) fun _ _ _ _ _ q => by cases q
    · cases h
  | .bi b l, e, Nn, d, X, C, Wx, sc, cl, ct, Q, h => by
    simp only [ckE] at h
    split at h
    · simp only [Bool.and_eq_true] at h
      obtain ⟨⟨h1, h2⟩, h3⟩ := h
      have st := ckA_head h3
      refine snd_val ?_ (fun _ => rfl) fun _ _ _ _ _ q => by cases q
      split at h1
      · have := eq_of_beq h1
        subst this
        exact s_mlist ct (gl_of Q h2) (sndA l _ _ _ X C Wx sc cl ct Q h3) (star_cons st) (ckA_tail h3)
      · split at h1
        · rename_i y k hb
          have := eq_of_beq h1
          subst this
          exact s_bi ct hb (gl_of Q h2) (sndA l _ _ _ X C Wx sc cl ct Q h3) (star_cons st) (ckA_tail h3)
        · cases h1
    · cases h
  | .meth m o l, e, Nn, d, X, C, Wx, sc, cl, ct, Q, h => by
    simp only [ckE] at h
    split at h
    · simp only [Bool.and_eq_true] at h
      obtain ⟨⟨⟨⟨h1, h2⟩, h3⟩, h4⟩, h5⟩ := h
      obtain ⟨a, rfl, h6, h7⟩ := ckA_one h3
      have L := sndA (.cons a .nil) _ _ _ X C Wx sc cl ct Q h3
      refine snd_val ?_ (fun _ => rfl) fun _ _ _ _ _ q => by cases q
      split at h1
      · have := eq_of_beq h1
        subst this
        exact s_append (sndE o _ _ _ X C Wx sc cl ct Q h2).1 L (base_of h4) (few_one h7) h5 (star_cons h7)
      · have := eq_of_beq h1
        subst this
        exact s_pop (sndE o _ _ _ X C Wx sc cl ct Q h2).1 L (base_of h4) (few_one h7) h5 (star_cons h7)
      · have := eq_of_beq h1
        subst this
        exact s_join ct (sndE o _ _ _ X C Wx sc cl ct Q h2).1 (sndE a _ _ _ X C Wx sc cl ct Q h6).1 (base_of h4) h5 (star_cons h7)
      · have := eq_of_beq h1
        subst this
        exact s_lstrip (sndE o _ _ _ X C Wx sc cl ct Q h2).1 L (base_of h4) (few_one h7) h5 (star_cons h7)
      · cases h1
    · cases h
  | .clo n l, e, Nn, d, X, C, Wx, sc, cl, ct, Q, h => by
    simp only [ckE] at h
    split at h
    · simp only [Bool.and_eq_true, beq_iff_eq] at h
      obtain ⟨⟨⟨⟨⟨h1, h2⟩, h3⟩, h4⟩, h5⟩, h6⟩ := h
      refine snd_val (s_clo ct h1 (gl_of Q h2) (okName_of h3).1 (lam_ok Q h4) h5 fun k hk A outer s H E f c' hr => ?_) (fun _ => rfl) fun _ _ _ _ _ q => by cases q
      subst hk
      exact (sndE l _ Nn.no k (lamCx X A outer s H E _ f c') C (fun cls d _ H => E cls d H) _ false (ct.lam A outer s H E _ f c' hr) (Sc.lam A outer s H E _ f c') h6).1
    · cases h
  | .lc t it ifs el own, e, Nn, d, X, C, Wx, sc, cl, ct, Q, h => by
    simp only [ckE] at h
    split at h
    · simp only [Bool.and_eq_true] at h
      obtain ⟨⟨⟨⟨⟨⟨h1, h2⟩, h3⟩, h4⟩, h5⟩, h6⟩, h7⟩ := h
      have ho : ∀ i ∈ tgV t, i ∈ own := fun i hi => by simpa using List.all_eq_true.mp h2 i hi
      have eo : (ownOf X.N own).map (·.2) = own := by unfold ownOf; rw [List.map_map]; exact List.map_id _
      refine snd_no ((pe_lc ct.calm ct.nd (sndI it _ _ _ _ X C Wx sc cl ct Q h4) (blk_ok Q h1)
        (fun s H D c fp => PG.ex fun xi => s_tg ((ct.blk xi s H _ _ fp).hK) ct.nd ct.calm (Sc.blk s H D c fp) t _ h3)
        (fun s H D c fp => PTs.ex fun xi => sndB ifs _ _ _ _ (C.at xi) WF _ true (ct.blk xi s H _ _ fp) (Sc.blk s H D c fp) h5)
        (fun s H D c fp => PE.ex fun xi => (sndE el _ _ _ _ (C.at xi) WF _ true (ct.blk xi s H _ _ fp) (Sc.blk s H D c fp) h6).1) (fold_no h7)).imp fun σ H R q => ?_) rfl
      rw [eo]
      exact i_lc ho q
    · cases h
  | .nil, e, Nn, d, X, C, Wx, sc, cl, ct, Q, h => snd_bad
  | .fnv _, e, Nn, d, X, C, Wx, sc, cl, ct, Q, h | .no, e, Nn, d, X, C, Wx, sc, cl, ct, Q, h | .lrng _, e, Nn, d, X, C, Wx, sc, cl, ct, Q, h | .rng _, e, Nn, d, X, C, Wx, sc, cl, ct, Q, h | .enum _, e, Nn, d, X, C, Wx, sc, cl, ct, Q, h | .zip .., e, Nn, d, X, C, Wx, sc, cl, ct, Q, h | .itr _, e, Nn, d, X, C, Wx, sc, cl, ct, Q, h | .cons .., e, Nn, d, X, C, Wx, sc, cl, ct, Q, h => by simp [ckE] at h
theorem sndA : ∀ (ir : E) (es : List Expr) (Nn : Nm) (d : Nat) (X : Cx) (C : Cn) (Wx : WX) (sc : Scope) (cl : Bool), Ct X C P Nn d Wx → Sc X sc cl → ckA Nn X.N sc ir es = true → PA X es (tA C P (callD P d) Wx ir)
  | .nil, es, Nn, d, X, C, Wx, sc, cl, ct, Q, h => by
    simp only [ckA] at h
    split at h
    · exact s_nil
    · cases h
  | .cons a b, es, Nn, d, X, C, Wx, sc, cl, ct, Q, h => by
    simp only [ckA] at h
    split at h
    · simp only [Bool.and_eq_true] at h
      exact s_cons (sndE a _ _ _ X C Wx sc cl ct Q h.1.1).1 (sndA b _ _ _ X C Wx sc cl ct Q h.1.2) (star_cons h.2)
    · cases h
  | .var _, e, Nn, d, X, C, Wx, sc, cl, ct, Q, h | .k _, e, Nn, d, X, C, Wx, sc, cl, ct, Q, h | .glob _, e, Nn, d, X, C, Wx, sc, cl, ct, Q, h | .fnv _, e, Nn, d, X, C, Wx, sc, cl, ct, Q, h | .bin .., e, Nn, d, X, C, Wx, sc, cl, ct, Q, h | .neg _, e, Nn, d, X, C, Wx, sc, cl, ct, Q, h | .cmp .., e, Nn, d, X, C, Wx, sc, cl, ct, Q, h | .chain .., e, Nn, d, X, C, Wx, sc, cl, ct, Q, h | .and .., e, Nn, d, X, C, Wx, sc, cl, ct, Q, h | .or .., e, Nn, d, X, C, Wx, sc, cl, ct, Q, h | .not _, e, Nn, d, X, C, Wx, sc, cl, ct, Q, h | .ife .., e, Nn, d, X, C, Wx, sc, cl, ct, Q, h
  | .tup _, e, Nn, d, X, C, Wx, sc, cl, ct, Q, h | .htup _, e, Nn, d, X, C, Wx, sc, cl, ct, Q, h | .lens _, e, Nn, d, X, C, Wx, sc, cl, ct, Q, h | .lst _, e, Nn, d, X, C, Wx, sc, cl, ct, Q, h | .mlst _, e, Nn, d, X, C, Wx, sc, cl, ct, Q, h | .dix .., e, Nn, d, X, C, Wx, sc, cl, ct, Q, h | .din .., e, Nn, d, X, C, Wx, sc, cl, ct, Q, h | .ix .., e, Nn, d, X, C, Wx, sc, cl, ct, Q, h | .sl .., e, Nn, d, X, C, Wx, sc, cl, ct, Q, h | .slx .., e, Nn, d, X, C, Wx, sc, cl, ct, Q, h | .no, e, Nn, d, X, C, Wx, sc, cl, ct, Q, h | .rev _, e, Nn, d, X, C, Wx, sc, cl, ct, Q, h | .call .., e, Nn, d, X, C, Wx, sc, cl, ct, Q, h | .bi .., e, Nn, d, X, C, Wx, sc, cl, ct, Q, h | .meth .., e, Nn, d, X, C, Wx, sc, cl, ct, Q, h
  | .lc .., e, Nn, d, X, C, Wx, sc, cl, ct, Q, h | .lzip .., e, Nn, d, X, C, Wx, sc, cl, ct, Q, h | .lrng _, e, Nn, d, X, C, Wx, sc, cl, ct, Q, h | .rng _, e, Nn, d, X, C, Wx, sc, cl, ct, Q, h | .enum _, e, Nn, d, X, C, Wx, sc, cl, ct, Q, h | .zip .., e, Nn, d, X, C, Wx, sc, cl, ct, Q, h | .itr _, e, Nn, d, X, C, Wx, sc, cl, ct, Q, h | .clo .., e, Nn, d, X, C, Wx, sc, cl, ct, Q, h => by simp [ckA] at h
theorem sndO : ∀ (ir : E) (o : Option Expr) (Nn : Nm) (d : Nat) (X : Cx) (C : Cn) (Wx : WX) (sc : Scope) (cl : Bool), Ct X C P Nn d Wx → Sc X sc cl → ckO Nn X.N sc ir o = true → PO X o (tO C P (callD P d) Wx ir)
  | .no, o, Nn, d, X, C, Wx, sc, cl, ct, Q, h => by
    simp only [ckO] at h
    split at h
    · exact s_no
    · cases h
  | .itr a, o, Nn, d, X, C, Wx, sc, cl, ct, Q, h => by
    simp only [ckO] at h
    split at h
    · exact s_some (sndE a _ _ _ X C Wx sc cl ct Q h).1
    · cases h
  | .var _, e, Nn, d, X, C, Wx, sc, cl, ct, Q, h | .k _, e, Nn, d, X, C, Wx, sc, cl, ct, Q, h | .glob _, e, Nn, d, X, C, Wx, sc, cl, ct, Q, h | .fnv _, e, Nn, d, X, C, Wx, sc, cl, ct, Q, h | .bin .., e, Nn, d, X, C, Wx, sc, cl, ct, Q, h | .neg _, e, Nn, d, X, C, Wx, sc, cl, ct, Q, h | .cmp .., e, Nn, d, X, C, Wx, sc, cl, ct, Q, h | .chain .., e, Nn, d, X, C, Wx, sc, cl, ct, Q, h | .and .., e, Nn, d, X, C, Wx, sc, cl, ct, Q, h | .or .., e, Nn, d, X, C, Wx, sc, cl, ct, Q, h | .not _, e, Nn, d, X, C, Wx, sc, cl, ct, Q, h | .ife .., e, Nn, d, X, C, Wx, sc, cl, ct, Q, h
  | .tup _, e, Nn, d, X, C, Wx, sc, cl, ct, Q, h | .htup _, e, Nn, d, X, C, Wx, sc, cl, ct, Q, h | .lens _, e, Nn, d, X, C, Wx, sc, cl, ct, Q, h | .lst _, e, Nn, d, X, C, Wx, sc, cl, ct, Q, h | .mlst _, e, Nn, d, X, C, Wx, sc, cl, ct, Q, h | .dix .., e, Nn, d, X, C, Wx, sc, cl, ct, Q, h | .din .., e, Nn, d, X, C, Wx, sc, cl, ct, Q, h | .ix .., e, Nn, d, X, C, Wx, sc, cl, ct, Q, h | .sl .., e, Nn, d, X, C, Wx, sc, cl, ct, Q, h | .slx .., e, Nn, d, X, C, Wx, sc, cl, ct, Q, h | .rev _, e, Nn, d, X, C, Wx, sc, cl, ct, Q, h | .call .., e, Nn, d, X, C, Wx, sc, cl, ct, Q, h | .bi .., e, Nn, d, X, C, Wx, sc, cl, ct, Q, h | .meth .., e, Nn, d, X, C, Wx, sc, cl, ct, Q, h
  | .lc .., e, Nn, d, X, C, Wx, sc, cl, ct, Q, h | .lzip .., e, Nn, d, X, C, Wx, sc, cl, ct, Q, h | .lrng _, e, Nn, d, X, C, Wx, sc, cl, ct, Q, h | .rng _, e, Nn, d, X, C, Wx, sc, cl, ct, Q, h | .enum _, e, Nn, d, X, C, Wx, sc, cl, ct, Q, h | .zip .., e, Nn, d, X, C, Wx, sc, cl, ct, Q, h | .clo .., e, Nn, d, X, C, Wx, sc, cl, ct, Q, h | .nil, e, Nn, d, X, C, Wx, sc, cl, ct, Q, h | .cons .., e, Nn, d, X, C, Wx, sc, cl, ct, Q, h => by simp [ckO] at h
theorem sndB : ∀ (ir : E) (es : List Expr) (Nn : Nm) (d : Nat) (X : Cx) (C : Cn) (Wx : WX) (sc : Scope) (cl : Bool), Ct X C P Nn d Wx → Sc X sc cl → ckB Nn X.N sc ir es = true → PTs X es (tBs C P (callD P d) Wx ir)
  | .nil, es, Nn, d, X, C, Wx, sc, cl, ct, Q, h => by
    simp only [ckB] at h
    split at h
    · exact s_bs0
    · cases h
  | .cons a b, es, Nn, d, X, C, Wx, sc, cl, ct, Q, h => by
    simp only [ckB] at h
    split at h
    · simp only [Bool.and_eq_true] at h
      obtain ⟨⟨h1, h2⟩, h3⟩ := h
      split at h3
      · exact s_bs1 ((sndE a _ _ _ X C Wx sc cl ct Q h1).2.1 h2)
      · cases h3
    · cases h
  | .var _, e, Nn, d, X, C, Wx, sc, cl, ct, Q, h | .k _, e, Nn, d, X, C, Wx, sc, cl, ct, Q, h | .glob _, e, Nn, d, X, C, Wx, sc, cl, ct, Q, h | .fnv _, e, Nn, d, X, C, Wx, sc, cl, ct, Q, h | .bin .., e, Nn, d, X, C, Wx, sc, cl, ct, Q, h | .neg _, e, Nn, d, X, C, Wx, sc, cl, ct, Q, h | .cmp .., e, Nn, d, X, C, Wx, sc, cl, ct, Q, h | .chain .., e, Nn, d, X, C, Wx, sc, cl, ct, Q, h | .and .., e, Nn, d, X, C, Wx, sc, cl, ct, Q, h | .or .., e, Nn, d, X, C, Wx, sc, cl, ct, Q, h | .not _, e, Nn, d, X, C, Wx, sc, cl, ct, Q, h | .ife .., e, Nn, d, X, C, Wx, sc, cl, ct, Q, h
  | .tup _, e, Nn, d, X, C, Wx, sc, cl, ct, Q, h | .htup _, e, Nn, d, X, C, Wx, sc, cl, ct, Q, h | .lens _, e, Nn, d, X, C, Wx, sc, cl, ct, Q, h | .lst _, e, Nn, d, X, C, Wx, sc, cl, ct, Q, h | .mlst _, e, Nn, d, X, C, Wx, sc, cl, ct, Q, h | .dix .., e, Nn, d, X, C, Wx, sc, cl, ct, Q, h | .din .., e, Nn, d, X, C, Wx, sc, cl, ct, Q, h | .ix .., e, Nn, d, X, C, Wx, sc, cl, ct, Q, h | .sl .., e, Nn, d, X, C, Wx, sc, cl, ct, Q, h | .slx .., e, Nn, d, X, C, Wx, sc, cl, ct, Q, h | .no, e, Nn, d, X, C, Wx, sc, cl, ct, Q, h | .rev _, e, Nn, d, X, C, Wx, sc, cl, ct, Q, h | .call .., e, Nn, d, X, C, Wx, sc, cl, ct, Q, h | .bi .., e, Nn, d, X, C, Wx, sc, cl, ct, Q, h | .meth .., e, Nn, d, X, C, Wx, sc, cl, ct, Q, h
  | .lc .., e, Nn, d, X, C, Wx, sc, cl, ct, Q, h | .lzip .., e, Nn, d, X, C, Wx, sc, cl, ct, Q, h | .lrng _, e, Nn, d, X, C, Wx, sc, cl, ct, Q, h | .rng _, e, Nn, d, X, C, Wx, sc, cl, ct, Q, h | .enum _, e, Nn, d, X, C, Wx, sc, cl, ct, Q, h | .zip .., e, Nn, d, X, C, Wx, sc, cl, ct, Q, h | .itr _, e, Nn, d, X, C, Wx, sc, cl, ct, Q, h | .clo .., e, Nn, d, X, C, Wx, sc, cl, ct, Q, h => by simp [ckB] at h
theorem sndI : ∀ (ir : E) (tg e : Expr) (Nn : Nm) (d : Nat) (X : Cx) (C : Cn) (Wx : WX) (sc : Scope) (cl : Bool), Ct X C P Nn d Wx → Sc X sc cl → ckI Nn X.N sc ir tg e = true → PI X tg e (tI C P (callD P d) Wx ir)
  | .itr a, tg, e, Nn, d, X, C, Wx, sc, cl, ct, Q, h => by
    simp only [ckI] at h
    exact s_itr ct (sndE a _ _ _ X C Wx sc cl ct Q h).1
  | .enum a, tg, e, Nn, d, X, C, Wx, sc, cl, ct, Q, h => by
    simp only [ckI] at h
    split at h
    · simp only [Bool.and_eq_true, beq_iff_eq] at h
      obtain ⟨⟨⟨rfl, h1⟩, h2⟩, h3⟩ := h
      exact s_enum ct (gl_of Q h1) (sndE a _ _ _ X C Wx sc cl ct Q h2).1 (star_cons h3)
    · cases h
  | .zip a b, tg, e, Nn, d, X, C, Wx, sc, cl, ct, Q, h => by
    simp only [ckI] at h
    split at h
    · simp only [Bool.and_eq_true, beq_iff_eq] at h
      obtain ⟨⟨⟨⟨⟨rfl, h1⟩, h2⟩, h3⟩, h4⟩, h5⟩ := h
      exact s_zip ct (gl_of Q h1) (sndE a _ _ _ X C Wx sc cl ct Q h2).1 (sndE b _ _ _ X C Wx sc cl ct Q h3).1 (by rw [star_cons h4]) (star_cons h5) (by rw [star_cons h5]; rfl)
    · cases h
  | .rng l, tg, e, Nn, d, X, C, Wx, sc, cl, ct, Q, h => by
    simp only [ckI] at h
    split at h
    · simp only [Bool.and_eq_true, beq_iff_eq] at h
      obtain ⟨⟨rfl, h2⟩, h3⟩ := h
      obtain ⟨a, rfl, h4, h5⟩ := ckA_one h3
      exact s_rng1 ct (gl_of Q h2) (sndA (.cons a .nil) _ _ _ X C Wx sc cl ct Q h3) (star_cons h5)
    · simp only [Bool.and_eq_true, beq_iff_eq] at h
      obtain ⟨⟨rfl, h2⟩, h3⟩ := h
      obtain ⟨a, b, rfl, h4, h5, h6, h7⟩ := ckA_two h3
      exact s_rng2 ct (gl_of Q h2) (sndA (.cons a (.cons b .nil)) _ _ _ X C Wx sc cl ct Q h3) (by rw [star_cons h5, star_cons h7]; rfl) (star_cons h7)
    · cases h
  | .nil, tg, e, Nn, d, X, C, Wx, sc, cl, ct, Q, h => pi_bad
  | .var _, tg, e, Nn, d, X, C, Wx, sc, cl, ct, Q, h | .k _, tg, e, Nn, d, X, C, Wx, sc, cl, ct, Q, h | .glob _, tg, e, Nn, d, X, C, Wx, sc, cl, ct, Q, h | .fnv _, tg, e, Nn, d, X, C, Wx, sc, cl, ct, Q, h | .bin .., tg, e, Nn, d, X, C, Wx, sc, cl, ct, Q, h | .neg _, tg, e, Nn, d, X, C, Wx, sc, cl, ct, Q, h | .cmp .., tg, e, Nn, d, X, C, Wx, sc, cl, ct, Q, h | .chain .., tg, e, Nn, d, X, C, Wx, sc, cl, ct, Q, h | .and .., tg, e, Nn, d, X, C, Wx, sc, cl, ct, Q, h | .or .., tg, e, Nn, d, X, C, Wx, sc, cl, ct, Q, h | .not _, tg, e, Nn, d, X, C, Wx, sc, cl, ct, Q, h | .ife .., tg, e, Nn, d, X, C, Wx, sc, cl, ct, Q, h
  | .tup _, tg, e, Nn, d, X, C, Wx, sc, cl, ct, Q, h | .htup _, tg, e, Nn, d, X, C, Wx, sc, cl, ct, Q, h | .lens _, tg, e, Nn, d, X, C, Wx, sc, cl, ct, Q, h | .lst _, tg, e, Nn, d, X, C, Wx, sc, cl, ct, Q, h | .mlst _, tg, e, Nn, d, X, C, Wx, sc, cl, ct, Q, h | .dix .., tg, e, Nn, d, X, C, Wx, sc, cl, ct, Q, h | .din .., tg, e, Nn, d, X, C, Wx, sc, cl, ct, Q, h | .ix .., tg, e, Nn, d, X, C, Wx, sc, cl, ct, Q, h | .sl .., tg, e, Nn, d, X, C, Wx, sc, cl, ct, Q, h | .slx .., tg, e, Nn, d, X, C, Wx, sc, cl, ct, Q, h | .no, tg, e, Nn, d, X, C, Wx, sc, cl, ct, Q, h | .rev _, tg, e, Nn, d, X, C, Wx, sc, cl, ct, Q, h | .call .., tg, e, Nn, d, X, C, Wx, sc, cl, ct, Q, h | .bi .., tg, e, Nn, d, X, C, Wx, sc, cl, ct, Q, h | .meth .., tg, e, Nn, d, X, C, Wx, sc, cl, ct, Q, h
  | .lc .., tg, e, Nn, d, X, C, Wx, sc, cl, ct, Q, h | .lzip .., tg, e, Nn, d, X, C, Wx, sc, cl, ct, Q, h | .lrng _, tg, e, Nn, d, X, C, Wx, sc, cl, ct, Q, h | .clo .., tg, e, Nn, d, X, C, Wx, sc, cl, ct, Q, h | .cons .., tg, e, Nn, d, X, C, Wx, sc, cl, ct, Q, h => by simp [ckI] at h
end
end
end G

set_option Elab.async false
set_option linter.all false
set_option autoImplicit false
set_option maxRecDepth 100000
set_option maxHeartbeats 2000000
/-! GB: statements, one by one. -/
namespace G
open PySem PySem.Spec PyProof.Rows L2
/-- what is wanted behind a statement -/
def ResS (C : Cn) (ρ : List Addr) (H : Hp) (r : RS) (D : Ends) (Wx : WX) : Prop :=
  match r with
  | .ok .nx env s => ∀ ρ' H' σ', Gr ρ H ρ' H' → SR C ρ' H' s → EnvR C ρ' H' env σ' → D.nx σ' H'
  | .ok .bk env s => ∀ ρ' H' σ', Gr ρ H ρ' H' → SR C ρ' H' s → EnvR C ρ' H' env σ' → D.bk σ' H'
  | .ok .ct env s => ∀ ρ' H' σ', Gr ρ H ρ' H' → SR C ρ' H' s → EnvR C ρ' H' env σ' → D.ct σ' H'
  | .ok (.rt w) _ s => ∀ ρ' H' v, Gr ρ H ρ' H' → SR C ρ' H' s → Rep C ρ' H' w v → D.rt v H'
  | .exc c l env s => ∀ ρ' H' σ' a d, Gr ρ H ρ' H' → SR C ρ' H' s → EnvR C ρ' H' env σ' → C.ca c = some a → ExR C ρ' H' c l d → Wx (.ref a) d σ' H'
  | .err => False
section
variable {X : Cx} {C : Cn} {P : Pg} {Nn : Nm} {d : Nat} {Wx : WX} {call : Nat → List W → M W} {ρ ρ' : List Addr} {H H' : Hp} {D : Ends}
theorem ResS.mono {r : RS} (h : ResS C ρ H r D Wx) (g : Gr ρ H ρ' H') : ResS C ρ' H' r D Wx := by
  cases r with
  | err => exact h
  | exc c l env s => exact fun ρ2 H2 σ2 a d g2 => h ρ2 H2 σ2 a d (g.trans g2)
  | ok f env s => cases f <;> exact fun ρ2 H2 σ2 g2 => h ρ2 H2 σ2 (g.trans g2)
def tS (C : Cn) (P : Pg) (call : Nat → List W → M W) (Wx : WX) (ir : S) : TS := fun D σ H => ∃ ρ s env, EnvR C ρ H env σ ∧ SR C ρ H s ∧ ResS C ρ H (evS P call ir env s) D Wx
theorem _root_.L2.PS.imp {e : Stmt} {t t' : TS} (h : PS X e t) (k : ∀ D σ H, t' D σ H → t D σ H) : PS X e t' := ⟨fun pins s σ H D I q => h.run pins s σ H D I (k D σ H q)⟩
theorem _root_.L2.PSs.imp {e : List Stmt} {t t' : TS} (h : PSs X e t) (k : ∀ D σ H, t' D σ H → t D σ H) : PSs X e t' := ⟨fun pins s σ H D I q => h.run pins s σ H D I (k D σ H q)⟩
/-- a part ahead of the rest -/
theorem ResS.eS {α β : Type} {Rl : List Addr → Hp → α → β → Prop} {m : M α} {f : α → ST → RS} {s : ST} {env : Env} {σ : L2.St} (eR : EnvR C ρ H env σ) (h : ResS C ρ H (G.eS m env f s) D Wx) {K : β → Hp → Prop}
    (k : ∀ ρ1 H1 s1 a v, Gr ρ H ρ1 H1 → EnvR C ρ1 H1 env σ → SR C ρ1 H1 s1 → Rl ρ1 H1 a v → ResS C ρ1 H1 (f a s1) D Wx → K v H1) : ResG C Rl ρ H (m s) K (WE Wx σ) := by
  unfold G.eS at h
  cases e : m s with
  | ok a s1 =>
    rw [e] at h
    exact fun ρ1 H1 v g S r => k ρ1 H1 s1 a v g (eR.mono g) S r (h.mono g)
  | exc c l s1 => rw [e] at h; exact fun ρ1 H1 a d g S ec => h ρ1 H1 σ a d g S (eR.mono g) ec
  | err => rw [e] at h; exact h
theorem tE.eS {a : E} {f : W → ST → RS} {s : ST} {env : Env} {σ : L2.St} {K : V → Hp → Prop} (eR : EnvR C ρ H env σ) (S : SR C ρ H s) (h : ResS C ρ H (G.eS (evE P call a env) env f s) D Wx)
    (k : ∀ ρ1 H1 s1 x v, Gr ρ H ρ1 H1 → EnvR C ρ1 H1 env σ → SR C ρ1 H1 s1 → Rep C ρ1 H1 x v → ResS C ρ1 H1 (f x s1) D Wx → K v H1) : tE C P call Wx a σ H K :=
  ⟨ρ, s, env, eR, S, ResS.eS (Rl := RepR C) eR h k⟩
theorem tT.eS {a : E} {f : W → ST → RS} {s : ST} {env : Env} {σ : L2.St} {K : Bool → Hp → Prop} (eR : EnvR C ρ H env σ) (S : SR C ρ H s) (h : ResS C ρ H (G.eS (evE P call a env) env f s) D Wx)
    (hf : ∀ x s, (∀ b, x ≠ .bl b) → f x s = .err)
    (k : ∀ ρ1 H1 s1 b, Gr ρ H ρ1 H1 → EnvR C ρ1 H1 env σ → SR C ρ1 H1 s1 → ResS C ρ1 H1 (f (.bl b) s1) D Wx → K b H1) : tT C P call Wx a σ H K := by
  refine ⟨ρ, s, env, eR, S, ?_⟩
  unfold asB G.bnd
  unfold G.eS at h
  cases e : evE P call a env s with
  | ok x s1 =>
    rw [e] at h
    by_cases hb : ∃ b, x = .bl b
    · obtain ⟨b, rfl⟩ := hb
      exact fun ρ1 H1 v g S1 r => by
        have r : b = v := r
        subst r
        exact k ρ1 H1 s1 b g (eR.mono g) S1 (h.mono g)
    · have := hf x s1 (fun b q => hb ⟨b, q⟩)
      simp only [this] at h
      exact h.elim
  | exc c l s1 => rw [e] at h; exact fun ρ1 H1 a d g S ec => h ρ1 H1 σ a d g S (eR.mono g) ec
  | err => rw [e] at h; exact h
/-! blocks -/
theorem ss_nil : PSs X [] (tS C P call Wx .nil) := by
  refine pss_nil.imp fun D σ H ⟨ρ, s, env, eR, S, h⟩ => ?_
  simp only [evS] at h
  exact h ρ H σ Gr.refl S eR
theorem ss_seq {a b : S} {st : Stmt} {rest : List Stmt} (ha : PS X st (tS C P call Wx a)) (hb : PSs X rest (tS C P call Wx b)) : PSs X (st :: rest) (tS C P call Wx (.seq a b)) := by
  refine (pss_cons ha hb).imp fun D σ H ⟨ρ, s, env, eR, S, h⟩ => ?_
  refine ⟨ρ, s, env, eR, S, ?_⟩
  simp only [evS] at h
  cases e : evS P call a env s with
  | err => rw [e] at h; exact h
  | exc c l env' s' => rw [e] at h; exact h
  | ok f env' s' =>
    rw [e] at h
    cases f with
    | nx => exact fun ρ1 H1 σ1 g S1 eR1 => ⟨ρ1, s', env', eR1, S1, h.mono g⟩
    | bk => exact h
    | ct => exact h
    | rt w => exact h
theorem ss_pass {pos : Pos} : PS X (.Pass pos) (tS C P call Wx .pass) := by
  refine ps_pass.imp fun D σ H ⟨ρ, s, env, eR, S, h⟩ => ?_
  simp only [evS] at h
  exact h ρ H σ Gr.refl S eR
theorem ss_brk {pos : Pos} : PS X (.Break pos) (tS C P call Wx .brk) := by
  refine ps_break.imp fun D σ H ⟨ρ, s, env, eR, S, h⟩ => ?_
  simp only [evS] at h
  exact h ρ H σ Gr.refl S eR
theorem ss_cnt {pos : Pos} : PS X (.Continue pos) (tS C P call Wx .cnt) := by
  refine ps_continue.imp fun D σ H ⟨ρ, s, env, eR, S, h⟩ => ?_
  simp only [evS] at h
  exact h ρ H σ Gr.refl S eR
theorem ss_rtn {pos : Pos} : PS X (.Return none pos) (tS C P call Wx .rtn) := by
  refine ps_retN.imp fun D σ H ⟨ρ, s, env, eR, S, h⟩ => ?_
  simp only [evS] at h
  exact h ρ H .non Gr.refl S Rep.mkN
theorem ss_rt {a : E} {ea : Expr} {pos : Pos} (ha : PE X ea (tE C P call Wx a)) : PS X (.Return (some ea) pos) (tS C P call Wx (.rt a)) := by
  refine (ps_ret ha).imp fun D σ H ⟨ρ, s, env, eR, S, h⟩ => ?_
  simp only [evS] at h
  exact tE.eS eR S h fun ρ1 H1 s1 x v g eR1 S1 r h1 => h1 ρ1 H1 v Gr.refl S1 r
theorem ss_expr {a : E} {ea : Expr} {pos : Pos} (ha : PE X ea (tE C P call Wx a)) (hs : swapsWith ea none pos.line X.env = pure false) : PS X (.Expr ea pos) (tS C P call Wx (.expr a)) := by
  refine (ps_expr ha hs).imp fun D σ H ⟨ρ, s, env, eR, S, h⟩ => ?_
  simp only [evS] at h
  exact tE.eS eR S h fun ρ1 H1 s1 x v g eR1 S1 r h1 => h1 ρ1 H1 σ Gr.refl S1 eR1
theorem ss_ife {c : E} {a b : S} {ec : Expr} {sa sb : List Stmt} {pos : Pos} (hc : PT X ec (tT C P call Wx c)) (ha : PSs X sa (tS C P call Wx a)) (hb : PSs X sb (tS C P call Wx b)) : PS X (.If ec sa sb pos) (tS C P call Wx (.ife c a b)) := by
  refine (ps_if hc ha hb).imp fun D σ H ⟨ρ, s, env, eR, S, h⟩ => ?_
  simp only [evS] at h
  refine tT.eS eR S h (fun x s hx => ?_) fun ρ1 H1 s1 k g eR1 S1 h1 => ?_
  · cases x <;> first | rfl | exact (hx _ rfl).elim
  · cases k with
    | true => exact ⟨ρ1, s1, env, eR1, S1, h1⟩
    | false => exact ⟨ρ1, s1, env, eR1, S1, h1⟩
theorem ss_asg {t : T} {a : E} {tg ea : Expr} {pos : Pos} (ha : PE X ea (tE C P call Wx a)) (hg : PG X tg (tG C t)) (hs : swapsWithSole [tg] ea pos.line X.env = pure false) (hw : swappedStores [tg] ea X.env = pure none) (h1 : (assignEach [tg] X.env).map (·.2) = [assign tg X.env]) :
    PS X (.Assign [tg] ea pos) (tS C P call Wx (.asg t a)) := by
  refine (ps_asg ha hg hs hw h1).imp fun D σ H ⟨ρ, s, env, eR, S, h⟩ => ?_
  simp only [evS] at h
  refine tE.eS eR S h fun ρ1 H1 s1 x v g eR1 S1 r h1 => ?_
  split at h1
  · rename_i env' e
    exact ⟨ρ1, s1, env, x, env', eR1, S1, r, e, fun σ' eR' _ => h1 ρ1 H1 σ' Gr.refl S1 eR'⟩
  · exact h1.elim
/-- an assignment of a list made by a comprehension, on one line -/
theorem i_asgL {i : Nat} {a : E} {σ : L2.St} {H : Hp} {D : Ends} (h : tS C P call Wx (.asg (.v i) a) D σ H) : tAsg (tE C P call Wx a) (gName i) D σ H := by
  obtain ⟨ρ, s, env, eR, S, h⟩ := h
  simp only [evS] at h
  refine tE.eS eR S h fun ρ1 H1 s1 x v g eR1 S1 r h1 => ?_
  simp only [asg] at h1
  split at h1
  · rename_i env' e
    split at e
    · cases e
      exact h1 ρ1 H1 _ Gr.refl S1 (eR1.set r)
    · cases e
  · exact h1.elim
theorem ss_par2 {i j : Nat} {x y : Str} {a b : E} {ea eb : Expr} {px py pt pos : Pos} {kt k2 pt2} (ct : Ct X C P Nn d Wx) (hi : X.N[i]? = some x) (hj : X.N[j]? = some y) (hij : i ≠ j)
    (hx : X.env.scope.names.lookup x = some .local) (hy : X.env.scope.names.lookup y = some .local) (ha : PA X [ea, eb] (tA C P call Wx (.cons a (.cons b .nil))))
    (hw : swappedStores [.Tuple [.Name x px, .Name y py] kt pt] (.Tuple [ea, eb] k2 pt2) X.env = pure (some [x, y])) : PS X (.Assign [.Tuple [.Name x px, .Name y py] kt pt] (.Tuple [ea, eb] k2 pt2) pos) (tS C P call Wx (.par2 i j a b)) := by
  refine (ps_par ct.calm ct.nd hi hj hij hx hy ha hw).imp fun D σ H ⟨ρ, s, env, eR, S, h⟩ => ?_
  simp only [evS] at h
  refine ⟨ρ, s, env, eR, S, ?_⟩
  simp only [evA]
  have h' : ResS C ρ H (G.eS (G.bnd (evE P call a env) fun x => G.bnd (G.bnd (evE P call b env) fun x => G.bnd (G.ret []) fun xs => G.ret (x :: xs)) fun xs => G.ret (x :: xs)) env (fun l s'' => match l with
      | [x, y] => if i < env.length ∧ j < env.length ∧ i ≠ j then .ok .nx ((env.set i (some x)).set j (some y)) s'' else .err
      | _ => .err) s) D Wx := by
    unfold G.eS G.bnd G.ret at *
    cases e : evE P call a env s with
    | ok x s1 =>
      rw [e] at h
      simp only at h ⊢
      cases e2 : evE P call b env s1 with
      | ok y s2 => rw [e2] at h; exact h
      | exc c l s2 => rw [e2] at h; exact h
      | err => rw [e2] at h; exact h
    | exc c l s1 => rw [e] at h; exact h
    | err => rw [e] at h; exact h
  refine ResS.eS (Rl := RepsR C) eR h' fun ρ1 H1 s1 l vs g eR1 S1 r h1 => ?_
  match l, h1 with
  | [x, y], h1 =>
    obtain ⟨v, us, rfl, r1, r2⟩ := r.cons'
    obtain ⟨u, rfl, r3⟩ := rep1 r2
    dsimp only at h1
    split at h1
    · exact ⟨v, u, rfl, h1 ρ1 H1 _ Gr.refl S1 ((eR1.set r1).set r3)⟩
    · exact h1.elim
  | [], h1 => exact h1.elim
  | [_], h1 => exact h1.elim
  | _ :: _ :: _ :: _, h1 => exact h1.elim
theorem ss_par3 {i j l : Nat} {x y z : Str} {a b c : E} {ea eb ec : Expr} {px py pz pt pos : Pos} {kt k2 pt2} (ct : Ct X C P Nn d Wx) (hi : X.N[i]? = some x) (hj : X.N[j]? = some y) (hl : X.N[l]? = some z) (hij : i ≠ j) (hil : i ≠ l) (hjl : j ≠ l)
    (hx : X.env.scope.names.lookup x = some .local) (hy : X.env.scope.names.lookup y = some .local) (hz : X.env.scope.names.lookup z = some .local) (ha : PA X [ea, eb, ec] (tA C P call Wx (.cons a (.cons b (.cons c .nil)))))
    (hw : swappedStores [.Tuple [.Name x px, .Name y py, .Name z pz] kt pt] (.Tuple [ea, eb, ec] k2 pt2) X.env = pure (some [x, y, z])) : PS X (.Assign [.Tuple [.Name x px, .Name y py, .Name z pz] kt pt] (.Tuple [ea, eb, ec] k2 pt2) pos) (tS C P call Wx (.par3 i j l a b c)) := by
  refine (ps_par3 ct.calm ct.nd hi hj hl hij hil hjl hx hy hz ha hw).imp fun D σ H ⟨ρ, s, env, eR, S, h⟩ => ?_
  simp only [evS] at h
  refine ⟨ρ, s, env, eR, S, ?_⟩
  simp only [evA]
  have h' : ResS C ρ H (G.eS (G.bnd (evE P call a env) fun x => G.bnd (G.bnd (evE P call b env) fun x => G.bnd (G.bnd (evE P call c env) fun x => G.bnd (G.ret []) fun xs => G.ret (x :: xs)) fun xs => G.ret (x :: xs)) fun xs => G.ret (x :: xs)) env (fun q s'' => match q with
      | [x, y, z] => if i < env.length ∧ j < env.length ∧ l < env.length ∧ i ≠ j ∧ i ≠ l ∧ j ≠ l then .ok .nx (((env.set i (some x)).set j (some y)).set l (some z)) s'' else .err
      | _ => .err) s) D Wx := by
    unfold G.eS G.bnd G.ret at *
    cases e : evE P call a env s with
    | ok x s1 =>
      rw [e] at h
      simp only at h ⊢
      cases e2 : evE P call b env s1 with
      | ok y s2 =>
        rw [e2] at h
        simp only at h ⊢
        cases e3 : evE P call c env s2 with
        | ok z s3 => rw [e3] at h; exact h
        | exc c l s2 => rw [e3] at h; exact h
        | err => rw [e3] at h; exact h
      | exc c l s2 => rw [e2] at h; exact h
      | err => rw [e2] at h; exact h
    | exc c l s1 => rw [e] at h; exact h
    | err => rw [e] at h; exact h
  refine ResS.eS (Rl := RepsR C) eR h' fun ρ1 H1 s1 l vs g eR1 S1 r h1 => ?_
  match l, h1 with
  | [x, y, z], h1 =>
    obtain ⟨v, us, rfl, r1, r2⟩ := r.cons'
    obtain ⟨v2, us2, rfl, r3, r4⟩ := r2.cons'
    obtain ⟨u, rfl, r5⟩ := rep1 r4
    dsimp only at h1
    split at h1
    · exact ⟨v, v2, u, rfl, h1 ρ1 H1 _ Gr.refl S1 (((eR1.set r1).set r3).set r5)⟩
    · exact h1.elim
  | [], h1 => exact h1.elim
  | [_], h1 => exact h1.elim
  | [_, _], h1 => exact h1.elim
  | _ :: _ :: _ :: _ :: _, h1 => exact h1.elim
/-- o[i] = e -/
theorem ss_seti {o i e : E} {eo ei ee : Expr} {tpos pos : Pos} (ho : PE X eo (tE C P call Wx o)) (hi : PE X ei (tE C P call Wx i)) (he : PE X ee (tE C P call Wx e)) (hp : plainIx ei = true)
    (hs : swapsWithSole [.Subscript eo ei tpos] ee pos.line X.env = pure false) (hw : swappedStores [.Subscript eo ei tpos] ee X.env = pure none) : PS X (.Assign [.Subscript eo ei tpos] ee pos) (tS C P call Wx (.seti o i e)) := by
  refine (ps_asg he (pg_sub ho hi set_list (by cases ei <;> first | (intro v; rfl) | (simp [plainIx] at hp))) hs hw rfl).imp fun D σ H ⟨ρ, s, env, eR, S, h⟩ => ?_
  simp only [evS] at h
  refine tE.eS eR S h fun ρ1 H1 s1 w v g1 eR1 S1 r1 h1 => ?_
  refine tE.eS eR1 S1 h1 fun ρ2 H2 s2 x u g2 eR2 S2 r2 h2 => ?_
  refine tE.eS eR2 S2 h2 fun ρ3 H3 s3 y k g3 eR3 S3 r3 h3 => ?_
  cases x <;> try exact h3.elim
  rename_i n
  cases y <;> try exact h3.elim
  rename_i j
  dsimp only at h3
  split at h3
  · rename_i ys es
    split at h3
    · rename_i jj ej
      obtain ⟨p, ep, rfl⟩ := (r2.mono g3).ref
      obtain ⟨p', vs, a1, a2, a3⟩ := S3.at_ n ys es
      rw [ep] at a1; cases a1
      have rw' := (r1.mono g2).mono g3
      obtain ⟨g, S'⟩ := S3.write es ep a2 (a3.set jj rw')
      have e5 : ixN vs.length j = some jj := by rw [ix_eq, ← a3.length]; exact ej
      exact ⟨p, vs, j, jj, rfl, r3.int, a2, e5, h3 ρ3 _ σ g S' (eR3.mono g)⟩
    · exact h3.elim
  · exact h3.elim
/-! loops -/
theorem ss_whl {c : E} {b : S} {ec : Expr} {sb : List Stmt} {pos : Pos} (hp : PassesOwn (model X.prog X.w) X.A X.env X.xe) (hc : PT X ec (tT C P call Wx c)) (hb : PSs X sb (tS C P call Wx b)) : PS X (.While ec sb [] pos) (tS C P call Wx (.whl c b)) := by
  refine (ps_while hp hc hb).imp fun D σ H ⟨ρ, s, env, eR, S, h⟩ => ?_
  simp only [evS] at h
  refine ⟨fun m σ H => ∃ ρ s env, EnvR C ρ H env σ ∧ SR C ρ H s ∧ ResS C ρ H (whileS (fun env => evE P call c env) (fun env s => evS P call b env s) m env s) D Wx, ⟨P.fuel, ρ, s, env, eR, S, h⟩, ?_⟩
  rintro m σ H ⟨ρ, s, env, eR, S, h⟩
  cases m with
  | zero => exact h.elim
  | succ m =>
    simp only [whileS] at h
    refine tT.eS eR S h (fun x s hx => ?_) fun ρ1 H1 s1 k g eR1 S1 h1 => ?_
    · cases x <;> first | rfl | exact (hx _ rfl).elim
    · cases k with
      | false => exact h1 ρ1 H1 σ Gr.refl S1 eR1
      | true =>
        refine ⟨fun σ' H' => ∃ ρ s env, EnvR C ρ H' env σ' ∧ SR C ρ H' s ∧ ResS C ρ H' (whileS (fun env => evE P call c env) (fun env s => evS P call b env s) m env s) D Wx, fun σ' H' q => ⟨m, Nat.lt_succ_self m, q⟩, ρ1, s1, env, eR1, S1, ?_⟩
        dsimp only at h1
        cases e : evS P call b env s1 with
        | err => rw [e] at h1; exact h1
        | exc c l env' s' => rw [e] at h1; exact h1
        | ok f env' s' =>
          rw [e] at h1
          cases f with
          | nx => exact fun ρ2 H2 σ2 g2 S2 eR2 => ⟨ρ2, s', env', eR2, S2, h1.mono g2⟩
          | ct => exact fun ρ2 H2 σ2 g2 S2 eR2 => ⟨ρ2, s', env', eR2, S2, h1.mono g2⟩
          | bk => exact h1
          | rt w => exact h1
/-- the rounds by index -/
def forI (src : Src) (b : W → Env → ST → RS) : Nat → Nat → Env → ST → RS
  | 0, _, _, _ => .err
  | m + 1, i, env, s => match srcAt src i s with
    | none => .err
    | some none => .ok .nx env s
    | some (some x) => match b x env s with
      | .ok .nx env' s' => forI src b m (i + 1) env' s'
      | .ok .ct env' s' => forI src b m (i + 1) env' s'
      | .ok .bk env' s' => .ok .nx env' s'
      | .ok (.rt w) env' s' => .ok (.rt w) env' s'
      | .exc c l env' s' => .exc c l env' s'
      | .err => .err
theorem forS_I (b : W → Env → ST → RS) (all : List W) : ∀ (xs : List W) (i : Nat) (env : Env) (s : ST), all.drop i = xs → forS b xs env s = forI (.row all) b (xs.length + 1) i env s
  | [], i, env, s, hd => by
    have hl : all.length ≤ i := List.drop_eq_nil_iff.mp hd
    simp only [forS, forI, srcAt, List.getElem?_eq_none hl]
  | x :: xs, i, env, s, hd => by
    have hx : all[i]? = some x := by
      have := congrArg (fun l => l[0]?) hd
      simpa [List.getElem?_drop] using this
    have hd' : all.drop (i + 1) = xs := by
      have := congrArg (List.drop 1) hd
      simpa [List.drop_drop] using this
    have ih := fun env s => forS_I b all xs (i + 1) env s hd'
    rw [List.length_cons]
    unfold forS forI
    simp only [srcAt, hx]
    cases e : b x env s with
    | err => rfl
    | exc c l env' s' => rfl
    | ok f env' s' =>
      cases f with
      | nx => exact ih env' s'
      | ct => exact ih env' s'
      | bk => rfl
      | rt w => rfl
theorem forL_I (b : W → Env → ST → RS) (src : Src) (g : Nat → W → W) (n : Nat) (hs : ∀ i s, srcAt src i s = (liveAt n i s).map fun o => o.map (g i)) : ∀ (k i : Nat) (env : Env) (s : ST), forL g b n k i env s = forI src b k i env s
  | 0, i, env, s => rfl
  | k + 1, i, env, s => by
    have ih := fun env s => forL_I b src g n hs k (i + 1) env s
    unfold forL forI
    rw [hs]
    cases e0 : liveAt n i s with
    | none => rfl
    | some o =>
      cases o with
      | none => rfl
      | some x =>
        simp only [Option.map_some]
        cases e : b (g i x) env s with
        | err => rfl
        | exc c l env' s' => rfl
        | ok f env' s' =>
          cases f with
          | nx => exact ih env' s'
          | ct => exact ih env' s'
          | bk => rfl
          | rt w => rfl
theorem forA_I (b : W → Env → ST → RS) (fuel : Nat) (src : Src) (env : Env) (s : ST) : ∃ m, forA b fuel src env s = forI src b m 0 env s := by
  cases src with
  | row xs => exact ⟨_, forS_I b xs xs 0 env s rfl⟩
  | live n => exact ⟨fuel, forL_I b _ _ n (fun i s => by simp only [srcAt]; cases liveAt n i s with | none => rfl | some o => cases o <;> rfl) fuel 0 env s⟩
  | liveE n => exact ⟨fuel, forL_I b _ _ n (fun i s => rfl) fuel 0 env s⟩
def stepS (P : Pg) (call : Nat → List W → M W) (t : T) (b : S) : W → Env → ST → RS := fun w env s => match asg t w env with
  | some env' => evS P call b env' s
  | none => .err
theorem ss_for {t : T} {it : E} {b : S} {tg iter : Expr} {sb : List Stmt} {pos : Pos} (hp : PassesOwn (model X.prog X.w) X.A X.env X.xe) (hc : X.calm = true) (hi : PI X tg iter (tI C P call Wx it)) (hg : PG X tg (tG C t)) (hb : PSs X sb (tS C P call Wx b))
    (hs : ∀ x, foldedSetIterable iter X.env x = pure x) : PS X (.For tg iter sb [] pos) (tS C P call Wx (.forr t it b)) := by
  refine (ps_for hp hc hi hg hb hs).imp fun D σ H ⟨ρ, s, env, eR, S, h⟩ => ?_
  simp only [evS] at h
  refine ⟨ρ, s, env, eR, S, ResS.eS (Rl := LkA C) eR h fun ρ1 H1 s1 src J g1 eR1 S1 lk h1 => ?_⟩
  have h1 : ResS C ρ1 H1 (forA (stepS P call t b) P.fuel src env s1) D Wx := h1
  obtain ⟨m0, e0⟩ := forA_I (stepS P call t b) P.fuel src env s1
  rw [e0] at h1
  refine ⟨fun i m σ H => ∃ ρ s env, Gr ρ1 H1 ρ H ∧ EnvR C ρ H env σ ∧ SR C ρ H s ∧ ResS C ρ H (forI src (stepS P call t b) m i env s) D Wx, ⟨m0, ρ1, s1, env, Gr.refl, eR1, S1, h1⟩, ?_⟩
  rintro i m σ H ⟨ρ2, s2, env2, g2, eR2, S2, h2⟩
  cases m with
  | zero => exact h2.elim
  | succ m =>
    simp only [forI] at h2
    cases esrc : srcAt src i s2 with
    | none => rw [esrc] at h2; exact h2.elim
    | some o =>
      rw [esrc] at h2
      have lki := lk.1 ρ2 H s2 i o g2 S2 esrc
      cases o with
      | none => exact .inl ⟨lki, h2 ρ2 H σ Gr.refl S2 eR2⟩
      | some x =>
        obtain ⟨jgo, jyld⟩ := lki
        refine .inr ⟨jgo, fun σ' H' => ∃ ρ s env, Gr ρ1 H1 ρ H' ∧ EnvR C ρ H' env σ' ∧ SR C ρ H' s ∧ ResS C ρ H' (forI src (stepS P call t b) m (i + 1) env s) D Wx, fun σ' H' q => ⟨m, Nat.lt_succ_self m, q⟩, fun v H3 hy => ?_⟩
        obtain ⟨g3, S3, rx⟩ := jyld v H3 hy
        dsimp only at h2
        unfold stepS at h2
        cases ea : asg t x env2 with
        | none => rw [ea] at h2; exact h2.elim
        | some env' =>
          rw [ea] at h2
          dsimp only at h2
          refine ⟨ρ2, s2, env2, x, env', eR2.mono g3, S3, rx, ea, fun σ' eR' _ => ⟨ρ2, s2, env', eR', S3, ?_⟩⟩
          have gA := g2.trans g3
          have h3 := h2.mono g3
          cases e : evS P call b env' s2 with
          | err => rw [e] at h3; exact h3
          | exc c l env' s' => rw [e] at h3; exact h3
          | ok f env' s' =>
            rw [e] at h3
            cases f with
            | nx => exact fun ρ4 H4 σ4 g4 S4 eR4 => ⟨ρ4, s', env', gA.trans g4, eR4, S4, h3.mono g4⟩
            | ct => exact fun ρ4 H4 σ4 g4 S4 eR4 => ⟨ρ4, s', env', gA.trans g4, eR4, S4, h3.mono g4⟩
            | bk => exact h3
            | rt w => exact h3
/-! raise -/
/-- an own class of errors: without arguments kept, or with one field -/
structure Er (X : Cx) (C : Cn) (xs : List (Str × Option Str)) : Prop where
  at_ : ∀ (n : Nat) (x : Str), xs[n]? = some (x, none) → C.xf n = none ∧ ∃ (a : Addr) (B newId initId : String) (bmB : List Value), C.ca n = some a ∧ X.mg x = some (.ref a) ∧ ExcBaseFacts B newId initId bmB ∧ PySem.W.excIn X.K a bmB newId = true ∧ PySem.W.keepIn X.K (.ref a) = true ∧
    PySem.W.subIn X.K (.ref a) (.type "BaseException") = some true ∧ PySem.W.typeIn X.K (.ref a) = some (.type "type")
  fl : ∀ (n : Nat) (x f : Str), xs[n]? = some (x, some f) → C.xf n = some f ∧ ∃ a, C.ca n = some a ∧ X.mg x = some (.ref a) ∧ XiOk X.prog X.K a f
theorem ss_raise {xs : List (Str × Option Str)} {n : Nat} {x m : Str} {j : Nat} {p p2 pos pos' : Pos} (ct : Ct X C P Nn d Wx) (er : Er X C xs) (hn : xs[n]? = some (x, none)) (hg : Gl X x) (hdb : (x == ("__debug__" : Str)) = false) :
    PS X (.Raise (some (.Call (.Name x p) [.Constant (.str m) j p2] [] pos)) none pos') (tS C P call Wx (.raise n .nil)) := by
  obtain ⟨e0, a, B, newId, initId, bmB, e1, e2, F, q, k1, k2, k3⟩ := er.at_ n x hn
  refine (ps_raise ct.calm ct.tk (pmk_own F q e2 k1 (raises_own k2 k3) hg hdb)).imp fun D σ H ⟨ρ, s, env, eR, S, h⟩ => ?_
  simp only [evS, evA] at h
  exact h ρ H σ a none Gr.refl S eR e1 (by unfold ExR; rw [e0]; trivial)
theorem ss_raiseF {xs : List (Str × Option Str)} {n : Nat} {x f : Str} {e : E} {ea : Expr} {p pos pos' : Pos} (ct : Ct X C P Nn d Wx) (er : Er X C xs) (hn : xs[n]? = some (x, some f)) (hg : Gl X x) (hdb : (x == ("__debug__" : Str)) = false)
    (ha : PE X ea (tE C P (callD P d) Wx e)) (hs : starEach [ea] X.env = (false, eval ea X.env) :: starEach [] X.env) :
    PS X (.Raise (some (.Call (.Name x p) [ea] [] pos)) none pos') (tS C P (callD P d) Wx (.raiseF n e)) := by
  obtain ⟨e0, a, e1, e2, T⟩ := er.fl n x f hn
  have key : ∀ k, d = k + 2 → PS X (.Raise (some (.Call (.Name x p) [ea] [] pos)) none pos') (fun D σ H => tMkO a (spI a f) [] (tCons (tE C P (callD P d) Wx e) tNil) σ H fun cls d H' => Wx cls d σ H') := fun k hk => by
    obtain ⟨fI, fd, ps, f1, f2, f3, F⟩ := xi_fn (P := X.prog) (w := X.w) (mg := X.mg) (base := X.base) (CX := L2.CX X.prog X.w) (k := k) T
    exact ps_raise ct.calm ct.tk (pmk_oex T.T f1 f2 F (by have := ct.room; rw [hk] at this; exact this) f3 .nil (passes_call (E := fun _ _ _ => False) ct.tk fun _ _ _ _ h => h.elim) hg e2 (pa_cons ha pa_nil hs) hdb hs rfl)
  refine ⟨fun pins st σ H D I ⟨ρ, s, env, eR, S, h⟩ => ?_⟩
  simp only [evS] at h
  cases e' : callD P d P.defs.length [] s with
  | exc c l s2 => exact (callD_gateX e').elim
  | err => unfold G.eS G.bnd at h; rw [e'] at h; exact h.elim
  | ok w s2 =>
    obtain ⟨k, hk, rfl⟩ := callD_gate e'
    refine (key k hk).run pins st σ H D I ?_
    have h' : ResS C ρ H (G.eS (evE P (callD P d) e env) env (fun x s' => .exc n [x] env s') s2) D Wx := by
      unfold G.eS G.bnd at h
      rw [e'] at h
      exact h
    refine tE.eS eR S h' fun ρ1 H1 s1 x v g1 eR1 S1 r1 h1 => ?_
    refine ⟨by simp, fun b hb => ⟨b, v, by simp, upd_same, fun dx hn hd => ?_⟩⟩
    have hn1 : H1 dx = none := by rw [upd_ne hd] at hn; exact hn
    refine ⟨rfl, dx, [(f, v)], upd_same, by rw [upd_ne hd, upd_same], hn1, ?_⟩
    have same : ∀ c, c ≠ b → c ≠ dx → (upd (del (upd (upd (upd H1 b (exo b a none)) dx (exd dx [(f, v)])) b (exo b a (some dx))) b) dx (.xd [(f, v)])) c = H1 c := fun c h1 h2 => by
      rw [upd_ne h2, del_ne h1, upd_ne h1, upd_ne h2, upd_ne h1]
    have sb : (upd (del (upd (upd (upd H1 b (exo b a none)) dx (exd dx [(f, v)])) b (exo b a (some dx))) b) dx (.xd [(f, v)])) b = none := by
      rw [upd_ne (Ne.symm hd), del_same]
    have keep : ∀ c o, H1 c = some o → (upd (del (upd (upd (upd H1 b (exo b a none)) dx (exd dx [(f, v)])) b (exo b a (some dx))) b) dx (.xd [(f, v)])) c = some o := fun c o hc => by
      rw [same c (ne_of_none hc hb) (ne_of_none hc hn1)]
      exact hc
    have g : Gr ρ1 H1 ρ1 (upd (del (upd (upd (upd H1 b (exo b a none)) dx (exd dx [(f, v)])) b (exo b a (some dx))) b) dx (.xd [(f, v)])) := by
      refine ⟨⟨[], by simp, fun _ h => nomatch h⟩, fun p o _ ho _ => keep p o ho, fun p fp o ho => ?_⟩
      exact fp o (keep p o ho)
    refine h1 ρ1 _ σ a (some dx) g ?_ (eR1.mono g) e1 ?_
    · exact S1.mono g (fun p hp => by
        obtain ⟨vs, h⟩ := S1.some hp
        rw [h]; exact keep p _ h) (S1.tb.ext keep)
    · unfold ExR
      rw [e0]
      exact ⟨dx, v, x, rfl, rfl, upd_same, r1.mono g⟩
end
end G

set_option Elab.async false
set_option linter.all false
set_option autoImplicit false
set_option maxRecDepth 100000
set_option maxHeartbeats 4000000
/-! GC: the checker of statements, and that what it lets pass is sound. -/
namespace G
open PySem PySem.Spec PyProof.Rows L2
def isComp : Expr → Bool
  | .ListComp .. | .SetComp .. | .DictComp .. => true
  | _ => false
def isStar : Expr → Bool
  | .Starred .. => true
  | _ => false
def swName (sc : Scope) (l : Nat) : Expr → Option Str
  | .Name id pos => if sc.names.lookup id == some .local && pos.line == l then some id else none
  | _ => none
/-- the stores are not exchanged -/
def noSw (sc : Scope) (tg v : Expr) : Bool :=
  match tg, v with
  | .Tuple ts _ _, .Tuple vs _ _ => !(ts.length == 2 || ts.length == 3) || vs.length != ts.length || vs.any isStar || (ts.filterMap (swName sc ((ts.head?.map (·.pos.line)).getD 0))).length != ts.length || vs.all (foldedForSure 8)
  | .List .., .Tuple .. => false
  | _, _ => true
theorem isStar_eq : (fun (x : Expr) => match x with | .Starred .. => true | _ => false) = isStar := by
  funext e
  cases e <;> rfl
theorem swName_eq (env : PySem.Env) (l : Nat) : (fun (x : Expr) => match x with | .Name id pos => if env.kindOf id == some .local && pos.line == l then some id else none | _ => none) = swName env.scope l := by
  funext e
  cases e <;> rfl
theorem noSw_ok {tg v : Expr} {env : PySem.Env} (h : noSw env.scope tg v = true) : swappedStores [tg] v env = pure none := by
  unfold swappedStores
  unfold noSw at h
  split at h
  · rename_i ts k p vs k2 p2
    dsimp only
    by_cases h1 : (!(ts.length == 2 || ts.length == 3) || vs.length != ts.length || env.blockKind != .function) = true
    · rw [if_pos h1]
    · rw [if_neg h1]
      simp only [Bool.or_eq_true, not_or] at h1
      by_cases h2 : (vs.any isStar) = true
      · rw [if_pos (by first | exact h2 | (rw [← isStar_eq] at h2; exact h2))]
      · rw [if_neg (by first | exact h2 | (rw [← isStar_eq] at h2; exact h2))]
        by_cases h3 : ((ts.filterMap (swName env.scope ((ts.head?.map (·.pos.line)).getD 0))).length != ts.length) = true
        · rw [if_pos]
          rw [← swName_eq] at h3
          simp only [Bool.or_eq_true]
          exact .inl h3
        · simp only [Bool.or_eq_true] at h
          rcases h with (((h | h) | h) | h) | h
          · exact (h1.1.1 h).elim
          · exact (h1.1.2 h).elim
          · exact (h2 h).elim
          · exact (h3 h).elim
          · rw [if_pos h]
            split <;> rfl
  · cases h
  · rename_i n1 n2
    split
    · rename_i ts vs e
      exfalso
      revert e
      cases tg <;> cases v <;> intro e <;> first | (exact n1 _ _ _ _ _ _ rfl rfl) | (exact n2 _ _ _ _ _ rfl rfl) | cases e
    · rfl
theorem sw2_ok {x y : Str} {a b : Expr} {px py pt pt2 : Pos} {kt k2} {env : PySem.Env} (hk : env.scope.kind = .function) (hx : env.scope.names.lookup x = some .local) (hy : env.scope.names.lookup y = some .local) (hl : (py.line == px.line) = true) (hxy : (x == y) = false)
    (ha : notStar a = true) (hb : notStar b = true) (hf : [a, b].all (foldedForSure 8) = false) (hc : [a, b].all (constantsAlone 8) = false) :
    swappedStores [.Tuple [.Name x px, .Name y py] kt pt] (.Tuple [a, b] k2 pt2) env = pure (some [x, y]) := by
  have kx : env.kindOf x = some .local := hx
  have ky : env.kindOf y = some .local := hy
  have hb' : env.blockKind = .function := by unfold PySem.Env.blockKind; rw [hk]; rfl
  have st : ([a, b].any fun | .Starred .. => true | _ => false) = false := by
    cases a <;> cases b <;> first | rfl | (simp [notStar] at ha; done) | (simp [notStar] at hb; done)
  unfold swappedStores
  simp only [hb', st, hf, hc, List.filterMap, kx, ky, Expr.pos, List.head?, Option.map, Option.getD, hl, beq_self_eq_true, Bool.and_self, Bool.and_true, if_true, List.length, List.eraseDups, List.eraseDupsBy, List.eraseDupsBy.loop, List.any, hxy]
  rw [show (y == x) = false from by rw [Bool.eq_false_iff] at hxy ⊢; exact fun q => hxy (by simpa using (eq_of_beq q).symm)]
  refine (if_neg (by decide)).trans ?_
  refine (if_neg (by rw [Bool.not_eq_true]; exact st)).trans ?_
  refine (if_neg ?_).trans ?_
  · rw [Bool.not_eq_true]; rfl
  · rfl
theorem sw3_ok {x y z : Str} {a b c : Expr} {px py pz pt pt2 : Pos} {kt k2} {env : PySem.Env} (hk : env.scope.kind = .function) (hx : env.scope.names.lookup x = some .local) (hy : env.scope.names.lookup y = some .local) (hz : env.scope.names.lookup z = some .local) (hl : (py.line == px.line) = true) (hl2 : (pz.line == px.line) = true)
    (hyx : (y == x) = false) (hzx : (z == x) = false) (hzy : (z == y) = false)
    (ha : notStar a = true) (hb : notStar b = true) (hcc : notStar c = true) (hf : [a, b, c].all (foldedForSure 8) = false) (hc : [a, b, c].all (constantsAlone 8) = false) :
    swappedStores [.Tuple [.Name x px, .Name y py, .Name z pz] kt pt] (.Tuple [a, b, c] k2 pt2) env = pure (some [x, y, z]) := by
  have kx : env.kindOf x = some .local := hx
  have ky : env.kindOf y = some .local := hy
  have kz : env.kindOf z = some .local := hz
  have hb' : env.blockKind = .function := by unfold PySem.Env.blockKind; rw [hk]; rfl
  have st : ([a, b, c].any fun | .Starred .. => true | _ => false) = false := by
    have e1 : ([a, b, c].any isStar) = false := by
      have q : ∀ e, notStar e = true → isStar e = false := fun e h => by cases e <;> first | rfl | (simp [notStar] at h)
      simp only [List.any, q a ha, q b hb, q c hcc, Bool.or_self]
    rw [← isStar_eq] at e1
    exact e1
  unfold swappedStores
  simp only [hb', st, hf, hc, List.filterMap, kx, ky, kz, Expr.pos, List.head?, Option.map, Option.getD, hl, hl2, beq_self_eq_true, Bool.and_self, Bool.and_true, if_true, List.length, List.eraseDups, List.eraseDupsBy, List.eraseDupsBy.loop, List.any, hyx, hzx, hzy]
  refine (if_neg (by decide)).trans ?_
  refine (if_neg (by rw [Bool.not_eq_true]; exact st)).trans ?_
  refine (if_neg ?_).trans ?_
  · rw [Bool.not_eq_true]; rfl
  · rfl
theorem swF {e : Expr} {t : Option Expr} {l : Nat} {env : PySem.Env} (h : isComp e = false) : swapsWith e t l env = pure false := by
  cases e <;> first | rfl | (simp [isComp] at h)
/-! ### the checker -/
def isNil : E → Bool
  | .nil => true
  | _ => false
theorem nil_of {e : E} (h : isNil e = true) : e = .nil := by
  cases e <;> first | rfl | cases h
def ckTop : T → Expr → Expr → Scope → Bool
  | .v _, .Name _ _, _, _ => true
  | _, tg, v, sc => !isComp v
def neS (x y : Str) : Bool := !(x == y)
section
variable (Nn : Nm) (xs : List (Str × Option Str)) (N : List Str) (sc : Scope)
mutual
def ck1 : S → Stmt → Bool
  | .asg t e, st => match st with
    | .Assign [tg] v _ => ckT sc true N t tg && ckE Nn N sc e v && noSw sc tg v && ckTop t tg v sc
    | _ => false
  | .par2 i j a b, st => match st with
    | .Assign [.Tuple [.Name x px, .Name y py] _ _] (.Tuple [ea, eb] _ _) _ => N[i]? == some x && N[j]? == some y && !(i == j) && lookIs sc x .local && lookIs sc y .local && py.line == px.line && !(x == y) && notStar ea && notStar eb &&
        !([ea, eb].all (foldedForSure 8)) && !([ea, eb].all (constantsAlone 8)) && ckE Nn N sc a ea && ckE Nn N sc b eb
    | _ => false
  | .par3 i j l a b c, st => match st with
    | .Assign [.Tuple [.Name x px, .Name y py, .Name z pz] _ _] (.Tuple [ea, eb, ec] _ _) _ => N[i]? == some x && N[j]? == some y && N[l]? == some z && !(i == j) && !(i == l) && !(j == l) && lookIs sc x .local && lookIs sc y .local && lookIs sc z .local && py.line == px.line && pz.line == px.line &&
        !(y == x) && !(z == x) && !(z == y) && notStar ea && notStar eb && notStar ec && !([ea, eb, ec].all (foldedForSure 8)) && !([ea, eb, ec].all (constantsAlone 8)) && ckE Nn N sc a ea && ckE Nn N sc b eb && ckE Nn N sc c ec
    | _ => false
  | .seti o i e, st => match st with
    | .Assign [.Subscript eo ei _] v _ => ckE Nn N sc o eo && ckE Nn N sc i ei && ckE Nn N sc e v && plainIx ei && !isComp v
    | _ => false
  | .expr e, st => isNil e || (match st with
    | .Expr v _ => ckE Nn N sc e v && !isComp v
    | _ => false)
  | .rt e, st => match st with
    | .Return (some v) _ => ckE Nn N sc e v
    | _ => false
  | .rtn, st => match st with
    | .Return none _ => true
    | _ => false
  | .ife c a b, st => match st with
    | .If t p q _ => ckE Nn N sc c t && ptOk t && ckS a p && ckS b q
    | _ => false
  | .whl c b, st => match st with
    | .While t p [] _ => ckE Nn N sc c t && ptOk t && ckS b p
    | _ => false
  | .forr t it b, st => match st with
    | .For tg iter p [] _ => ckT sc true N t tg && ckI Nn N sc it tg iter && ckS b p && notSet iter
    | _ => false
  | .brk, st => match st with
    | .Break _ => true
    | _ => false
  | .cnt, st => match st with
    | .Continue _ => true
    | _ => false
  | .pass, st => match st with
    | .Pass _ => true
    | _ => false
  | .raise n l, st => match st with
    | .Raise (some (.Call (.Name x _) [.Constant (.str _) _ _] [] _)) none _ => xs[n]? == some (x, none) && lookIs sc x .globalImplicit && okName x && (match l with | .nil => true | _ => false)
    | _ => false
  | .raiseF n e, st => match st with
    | .Raise (some (.Call (.Name x _) [ea] [] _)) none _ => (match xs[n]? with | some (y, some _) => y == x | _ => false) && lookIs sc x .globalImplicit && okName x && ckE Nn N sc e ea && notStar ea
    | _ => false
  | _, _ => false
termination_by structural e => e
def ckS : S → List Stmt → Bool
  | .nil, l => match l with
    | [] => true
    | _ => false
  | .seq a b, l => match l with
    | st :: rest => ck1 a st && ckS b rest
    | _ => false
  | _, _ => false
termination_by structural e => e
end
end
section
variable {X : Cx} {C : Cn} {P : Pg} {Nn : Nm} {d : Nat} {Wx : WX} {xs : List (Str × Option Str)}
theorem top_each {t : T} {tg : Expr} {sc : Scope} {cl : Bool} {N : List Str} {env : PySem.Env} (h : ckT sc cl N t tg = true) : (assignEach [tg] env).map (·.2) = [assign tg env] := by rw [asgEach h]; rfl
/-- a statement that is never reached -/
theorem ps_bad {st : Stmt} : PS X st (tS C P (callD P d) Wx (.expr .nil)) := ⟨fun _ _ _ _ _ _ q => by
  obtain ⟨ρ, s, env, _, _, h⟩ := q
  exact h.elim⟩
theorem ps_badA {t : T} {st : Stmt} : PS X st (tS C P (callD P d) Wx (.asg t .nil)) := ⟨fun _ _ _ _ _ _ q => by
  obtain ⟨ρ, s, env, _, _, h⟩ := q
  exact h.elim⟩
/-- name = [..] -/
theorem snd_setLc {i : Nat} {t : T} {it ifs el : E} {own : List Nat} {y : Str} {py spos cpos : Pos} {elt : Expr} {gs : List Comprehension} {scope : Scope} (ct : Ct X C P Nn d Wx) (Q : Sc X X.env.scope true) (hk : X.env.scope.kind = .function)
    (hT : ckT X.env.scope true X.N (.v i) (.Name y py) = true) (h : ckE Nn X.N X.env.scope (.lc t it ifs el own) (.ListComp elt gs scope cpos) = true) :
    PS X (.Assign [.Name y py] (.ListComp elt gs scope cpos) spos) (tS C P (callD P d) Wx (.asg (.v i) (.lc t it ifs el own))) := by
  have hb : X.env.blockKind = .function := by unfold PySem.Env.blockKind; rw [hk]; rfl
  by_cases hsw : (X.env.kindOf y == some .local && py.line == cpos.line && !(scope.names.any fun (n, k) => n == y && (k == .local || k == .cell))) = true
  · have hsw' : swapsWith (.ListComp elt gs scope cpos) (some (.Name y py)) spos.line X.env = pure true := by
      unfold swapsWith
      simp only [hb, Expr.pos, beq_self_eq_true, Bool.true_and]
      rw [hsw]
    simp only [Bool.and_eq_true, beq_iff_eq] at hsw
    have hyl : X.env.scope.names.lookup y = some .local := hsw.1.1
    simp only [ckT, Bool.and_eq_true, beq_iff_eq] at hT
    simp only [ckE] at h
    split at h
    · rename_i q
      cases q
      simp only [Bool.and_eq_true] at h
      obtain ⟨⟨⟨⟨⟨⟨h1, h2⟩, h3⟩, h4⟩, h5⟩, h6⟩, h7⟩ := h
      have ho : ∀ i ∈ tgV t, i ∈ own := fun i hi => by simpa using List.all_eq_true.mp h2 i hi
      have eo : (ownOf X.N own).map (·.2) = own := by unfold ownOf; rw [List.map_map]; exact List.map_id _
      refine (ps_setLc ct.calm ct.nd hT.1 hyl hsw' (sndI it _ _ _ _ X C Wx _ _ ct Q h4) (blk_ok Q h1)
        (fun s H D c fp => PG.ex fun xi => s_tg ((ct.blk xi s H _ _ fp).hK) ct.nd ct.calm (Sc.blk s H D c fp) t _ h3)
        (fun s H D c fp => PTs.ex fun xi => sndB ifs _ _ _ _ (C.at xi) WF _ true (ct.blk xi s H _ _ fp) (Sc.blk s H D c fp) h5)
        (fun s H D c fp => PE.ex fun xi => (sndE el _ _ _ _ (C.at xi) WF _ true (ct.blk xi s H _ _ fp) (Sc.blk s H D c fp) h6).1) (fold_no h7)).imp fun D σ H q => ?_
      have q := i_asgL q
      rw [eo]
      exact i_lc (Q := fun x H1 => gName i x σ H1 D.nx) ho q
    · cases h
  · have hsw' : swapsWith (.ListComp elt gs scope cpos) (some (.Name y py)) spos.line X.env = pure false := by
      unfold swapsWith
      simp only [hb, Expr.pos, beq_self_eq_true, Bool.true_and]
      rw [Bool.not_eq_true] at hsw
      rw [hsw]
    exact ss_asg (sndE _ _ _ _ X C Wx _ _ ct Q h).1 (s_tg ct.hK ct.nd ct.calm Q _ _ hT) hsw' rfl rfl
mutual
theorem snd1 (hk : X.env.scope.kind = .function) (er : Er X C xs) (hp : PassesOwn (model X.prog X.w) X.A X.env X.xe) (ct : Ct X C P Nn d Wx) (Q : Sc X X.env.scope true) : ∀ (ir : S) (st : Stmt), ck1 Nn xs X.N X.env.scope ir st = true → PS X st (tS C P (callD P d) Wx ir)
  | .asg t e, st, h => by
    simp only [ck1] at h
    split at h
    · rename_i tg v pos
      simp only [Bool.and_eq_true] at h
      by_cases hn : isNil e = true
      · rw [nil_of hn]; exact ps_badA
      obtain ⟨⟨⟨h1, h2⟩, h3⟩, h4⟩ := h
      by_cases hc : isComp v = true
      · cases t with
        | v i =>
          cases tg <;> try (simp [ckT] at h1; done)
          cases v <;> try (simp [isComp] at hc; done)
          · cases e <;> try first | (simp [ckE] at h2; done) | (simp [isNil] at hn; done)
            · rename_i w
              cases w <;> simp [ckE, ckK] at h2
            · exact snd_setLc ct Q hk h1 h2
          · cases e <;> try first | (simp [ckE] at h2; done) | (simp [isNil] at hn; done)
            rename_i w
            cases w <;> simp [ckE, ckK] at h2
          · cases e <;> try first | (simp [ckE] at h2; done) | (simp [isNil] at hn; done)
            rename_i w
            cases w <;> simp [ckE, ckK] at h2
        | nil => simp [ckTop, hc] at h4
        | cons a b => simp [ckTop, hc] at h4
      · have hc : isComp v = false := by simpa using hc
        exact ss_asg (sndE e v _ _ X C Wx _ _ ct Q h2).1 (s_tg ct.hK ct.nd ct.calm Q t tg h1) (swF hc) (noSw_ok h3) (top_each h1)
    · cases h
  | .par2 i j a b, st, h => by
    simp only [ck1] at h
    split at h
    · simp only [Bool.and_eq_true, beq_iff_eq, lookIs, Bool.not_eq_true', bne_iff_ne] at h
      obtain ⟨⟨⟨⟨⟨⟨⟨⟨⟨⟨⟨⟨h1, h2⟩, h3⟩, h4⟩, h5⟩, h6⟩, h7⟩, h8⟩, h9⟩, h10⟩, h11⟩, h12⟩, h13⟩ := h
      have A := (sndE a _ _ _ X C Wx _ _ ct Q h12).1
      have B := (sndE b _ _ _ X C Wx _ _ ct Q h13).1
      exact ss_par2 ct h1 h2 (by simpa using h3) h4 h5 (s_cons A (s_cons B s_nil (star_cons h9)) (star_cons h8)) (sw2_ok hk h4 h5 (by simpa using h6) h7 h8 h9 h10 h11)
    · cases h
  | .par3 i j l a b c, st, h => by
    simp only [ck1] at h
    split at h
    · simp only [Bool.and_eq_true, beq_iff_eq, lookIs, Bool.not_eq_true', bne_iff_ne] at h
      obtain ⟨⟨⟨⟨⟨⟨⟨⟨⟨⟨⟨⟨⟨⟨⟨⟨⟨⟨⟨⟨⟨h1, h2⟩, h3⟩, h4⟩, h5⟩, h6⟩, h7⟩, h8⟩, h9⟩, h10⟩, h11⟩, h12⟩, h13⟩, h14⟩, h15⟩, h16⟩, h17⟩, h18⟩, h19⟩, h20⟩, h21⟩, h22⟩ := h
      have A := (sndE a _ _ _ X C Wx _ _ ct Q h20).1
      have B := (sndE b _ _ _ X C Wx _ _ ct Q h21).1
      have D := (sndE c _ _ _ X C Wx _ _ ct Q h22).1
      exact ss_par3 ct h1 h2 h3 (by simpa using h4) (by simpa using h5) (by simpa using h6) h7 h8 h9 (s_cons A (s_cons B (s_cons D s_nil (star_cons h17)) (star_cons h16)) (star_cons h15)) (sw3_ok hk h7 h8 h9 (by simpa using h10) (by simpa using h11) h12 h13 h14 h15 h16 h17 h18 h19)
    · cases h
  | .seti o i e, st, h => by
    simp only [ck1] at h
    split at h
    · simp only [Bool.and_eq_true, Bool.not_eq_true'] at h
      obtain ⟨⟨⟨⟨h1, h2⟩, h3⟩, h4⟩, h5⟩ := h
      exact ss_seti (sndE o _ _ _ X C Wx _ _ ct Q h1).1 (sndE i _ _ _ X C Wx _ _ ct Q h2).1 (sndE e _ _ _ X C Wx _ _ ct Q h3).1 h4 (by unfold swapsWithSole; exact swF h5) rfl
    · cases h
  | .expr e, st, h => by
    simp only [ck1] at h
    by_cases hn : isNil e = true
    · rw [nil_of hn]; exact ps_bad
    have hn : isNil e = false := by simpa using hn
    rw [hn, Bool.false_or] at h
    split at h
    · simp only [Bool.and_eq_true, Bool.not_eq_true'] at h
      exact ss_expr (sndE e _ _ _ X C Wx _ _ ct Q h.1).1 (swF h.2)
    · cases h
  | .rt e, st, h => by
    simp only [ck1] at h
    split at h
    · exact ss_rt (sndE e _ _ _ X C Wx _ _ ct Q h).1
    · cases h
  | .rtn, st, h => by
    simp only [ck1] at h
    split at h
    · exact ss_rtn
    · cases h
  | .ife c a b, st, h => by
    simp only [ck1] at h
    split at h
    · simp only [Bool.and_eq_true] at h
      obtain ⟨⟨⟨h1, h2⟩, h3⟩, h4⟩ := h
      exact ss_ife ((sndE c _ _ _ X C Wx _ _ ct Q h1).2.1 h2) (sndS hk er hp ct Q a _ h3) (sndS hk er hp ct Q b _ h4)
    · cases h
  | .whl c b, st, h => by
    simp only [ck1] at h
    split at h
    · simp only [Bool.and_eq_true] at h
      obtain ⟨⟨h1, h2⟩, h3⟩ := h
      exact ss_whl hp ((sndE c _ _ _ X C Wx _ _ ct Q h1).2.1 h2) (sndS hk er hp ct Q b _ h3)
    · cases h
  | .forr t it b, st, h => by
    simp only [ck1] at h
    split at h
    · simp only [Bool.and_eq_true] at h
      obtain ⟨⟨⟨h1, h2⟩, h3⟩, h4⟩ := h
      exact ss_for hp ct.calm (sndI it _ _ _ _ X C Wx _ _ ct Q h2) (s_tg ct.hK ct.nd ct.calm Q t _ h1) (sndS hk er hp ct Q b _ h3) (fold_no h4)
    · cases h
  | .brk, st, h => by
    simp only [ck1] at h
    split at h
    · exact ss_brk
    · cases h
  | .cnt, st, h => by
    simp only [ck1] at h
    split at h
    · exact ss_cnt
    · cases h
  | .pass, st, h => by
    simp only [ck1] at h
    split at h
    · exact ss_pass
    · cases h
  | .raise n l, st, h => by
    simp only [ck1] at h
    split at h
    · simp only [Bool.and_eq_true, beq_iff_eq] at h
      obtain ⟨⟨⟨h1, h2⟩, h3⟩, h4⟩ := h
      split at h4
      · exact ss_raise ct er h1 (gl_of Q h2) (okName_of h3).1
      · cases h4
    · cases h
  | .raiseF n e, st, h => by
    simp only [ck1] at h
    split at h
    · simp only [Bool.and_eq_true] at h
      obtain ⟨⟨⟨⟨h1, h2⟩, h3⟩, h4⟩, h5⟩ := h
      split at h1
      · rename_i y f hy
        have := eq_of_beq h1
        subst this
        exact ss_raiseF ct er hy (gl_of Q h2) (okName_of h3).1 (sndE e _ _ _ X C Wx _ _ ct Q h4).1 (star_cons h5)
      · cases h1
    · cases h
  | .nil, st, h => by simp [ck1] at h
  | .seq _ _, st, h => by simp [ck1] at h
theorem sndS (hk : X.env.scope.kind = .function) (er : Er X C xs) (hp : PassesOwn (model X.prog X.w) X.A X.env X.xe) (ct : Ct X C P Nn d Wx) (Q : Sc X X.env.scope true) : ∀ (ir : S) (st : List Stmt), ckS Nn xs X.N X.env.scope ir st = true → PSs X st (tS C P (callD P d) Wx ir)
  | .nil, st, h => by
    simp only [ckS] at h
    split at h
    · exact ss_nil
    · cases h
  | .seq a b, st, h => by
    simp only [ckS] at h
    split at h
    · simp only [Bool.and_eq_true] at h
      exact ss_seq (snd1 hk er hp ct Q a _ h.1) (sndS hk er hp ct Q b _ h.2)
    · cases h
  | .asg .., st, h | .par2 .., st, h | .par3 .., st, h | .seti .., st, h | .expr _, st, h | .rt _, st, h | .rtn, st, h | .ife .., st, h | .whl .., st, h | .forr .., st, h | .brk, st, h | .cnt, st, h | .pass, st, h | .raise .., st, h | .raiseF .., st, h => by simp [ckS] at h
end
end
end G

set_option Elab.async false
set_option linter.all false
set_option autoImplicit false
set_option maxRecDepth 100000
set_option maxHeartbeats 4000000
/-! GD: defs: each keeps its promise, however deep. -/
namespace G
open PySem PySem.Spec PyProof.Rows L2
/-- a def of the text, its form and its address; cs: code objects and their tables -/
structure DData (K : PySem.W.Frag) (mg : Str → Option Value) (Nn : Nm) (xs : List (Str × Option Str)) (P : Pg) (C : Cn) (cs : List (Addr × Addr)) (n : Nat) (x : Str) (f : Addr) (fd : FuncData) (ps : List Str) : Prop where
  ex : ∃ (st : Stmt) (N : List Str) (df : Def) (oc : Value) (od : Option Addr) (kV doc pm : Value) (an : Option Addr) (cdv ct : Value) (osl : Array (Option Value)), fd = PySem.W.fnOf x x (defArgs st) (defBody st) (defScope st) .none kV doc pm an cdv ct ∧ C.fa n = some f ∧ mg x = some (.ref f) ∧ PySem.W.keepIn K (.ref f) = true ∧
    K.lookup f = some ⟨oc, od, .func fd, osl⟩ ∧ PySem.W.codeIn K cdv x = true ∧ Binds K fd ps [] ∧
    FnScope N ps (defScope st) ∧ P.defs[n]? = some df ∧ df.np = ps.length ∧ df.nl = N.length ∧
    (ckS Nn.no xs N (defScope st) df.body (defBody st) = true ∨ (ckS Nn xs N (defScope st) df.body (defBody st) = true ∧
      ∃ c Pt, cdv = .ref c ∧ (c, Pt) ∈ cs ∧ (Pt, (x ++ ".<locals>.") ++ "<lambda>") ∈ C.T ∧ ∀ p ∈ C.T, p.1 = Pt → p.2 = (x ++ ".<locals>.") ++ "<lambda>"))
structure DefOk (K : PySem.W.Frag) (mg : Str → Option Value) (Nn : Nm) (xs : List (Str × Option Str)) (P : Pg) (C : Cn) (cs : List (Addr × Addr)) (n : Nat) (x : Str) : Prop where
  ex : ∃ f fd ps, DData K mg Nn xs P C cs n x f fd ps
structure CnOk (mg : Str → Option Value) (P : Pg) (C : Cn) (n : Nat) (x : Str) : Prop where
  ex : ∃ u v w, mg x = some u ∧ RelV v u ∧ P.consts[n]? = some w ∧ ∀ xi ρ H, Rep { C with xi := xi } ρ H w v
structure ErOk (K : PySem.W.Frag) (mg : Str → Option Value) (C : Cn) (n : Nat) (x : Str) : Prop where
  ex : C.xf n = none ∧ ∃ (a : Addr) (B newId initId : String) (bmB : List Value), C.ca n = some a ∧ mg x = some (.ref a) ∧ ExcBaseFacts B newId initId bmB ∧ PySem.W.excIn K a bmB newId = true ∧ PySem.W.keepIn K (.ref a) = true ∧
    PySem.W.subIn K (.ref a) (.type "BaseException") = some true ∧ PySem.W.typeIn K (.ref a) = some (.type "type")
structure EfOk (Pr : Program) (K : PySem.W.Frag) (mg : Str → Option Value) (C : Cn) (n : Nat) (x f : Str) : Prop where
  ex : C.xf n = some f ∧ ∃ a, C.ca n = some a ∧ mg x = some (.ref a) ∧ XiOk Pr K a f
/-- what the proof needs of a program -/
structure PgOk (Pr : Program) (w : World) (K : PySem.W.Frag) (mg : Str → Option Value) (Nn : Nm) (xs : List (Str × Option Str)) (P : Pg) (C : Cn) (cs : List (Addr × Addr)) : Prop where
  hK : K = C.K
  blt : ∀ x ∈ bnames, mg x = none
  df : ∀ (n : Nat) (x : Str), Nn.fns[n]? = some x → DefOk K mg Nn xs P C cs n x
  cn : ∀ (n : Nat) (x : Str), Nn.cns[n]? = some x → CnOk mg P C n x
  er : ∀ (n : Nat) (x : Str), xs[n]? = some (x, none) → ErOk K mg C n x
  ef : ∀ (n : Nat) (x f : Str), xs[n]? = some (x, some f) → EfOk Pr K mg C n x f
  tb : ∀ (n : Nat) (x : Str), Nn.tbs[n]? = some x → TbOk K w mg P C n x
  tl : ∀ (n : Nat) (x : Str), Nn.tl[n]? = some x → ∃ row, P.told[n]? = some row ∧ TellK K mg C x row
section
variable {Pr : Program} {w : World} {K : PySem.W.Frag} {mg : Str → Option Value} {base : Heap} {Nn : Nm} {xs : List (Str × Option Str)} {P : Pg} {C : Cn}
theorem startEnv {N : List Str} {args : List W} {vs : List V} {ρ : List Addr} {H : Hp} (r : Reps C ρ H args vs) (hl : args.length ≤ N.length) : EnvR C ρ H (args.map some ++ List.replicate (N.length - args.length) none) (L2.start N vs) := by
  have hv := r.length
  unfold L2.start
  refine ⟨by simp [← hv], fun i u h => ?_⟩
  by_cases hi : i < args.length
  · rw [List.getElem?_append_left (by simpa using hi), List.getElem?_map] at h
    rw [List.getElem?_append_left (by rw [List.length_map, ← hv]; exact hi), List.getElem?_map]
    cases e : args[i]? with
    | none => rw [e] at h; cases h
    | some a =>
      rw [e] at h
      cases h
      obtain ⟨v, e1, r1⟩ := r.get e
      exact ⟨v, by rw [e1]; rfl, r1⟩
  · rw [List.getElem?_append_right (by simpa using hi), List.getElem?_replicate] at h
    split at h <;> cases h
theorem dat_ok {cs : List (Addr × Addr)} (ok : PgOk Pr w K mg Nn xs P C cs) (TB : ∀ p ∈ cs, LamX.TabB base mg p.1 p.2) : ∀ (d k : Nat), k ≤ d → ∀ (n : Nat) (x : Str), Nn.fns[n]? = some x → ∀ f fd ps, DData K mg Nn xs P C cs n x f fd ps → FnOk Pr w K mg base (L2.CX Pr w) k f fd ps (spD C P k n)
  | 0, k, hk, n, x, hn, f, fd, ps, dd => by
    obtain rfl : k = 0 := by omega
    obtain ⟨st, N, df, oc, od, kV, doc, pm, an, cdv, ctv, osl, rfl, e1, e2, kp, lk, hcd, b, S, e3, h1, h2, ck⟩ := dd.ex
    have no : ∀ vs H Q E, ¬ spD C P 0 n vs H Q E := fun vs H Q E ⟨xi, ρ, s, args, _, _, h⟩ => h.elim
    exact ⟨fun vs H Q E h => (no _ _ _ _ h).elim, fun A outer s H args us vs Q E _ _ _ _ h => (no _ _ _ _ h).elim⟩
  | d + 1, k, hk, n, x, hn, f, fd, ps, dd => by
    have ih0 := dat_ok ok TB d
    have ih : ∀ (k : Nat), k ≤ d → ∀ (n : Nat) (x : Str), Nn.fns[n]? = some x → ∃ f fd ps, C.fa n = some f ∧ mg x = some (.ref f) ∧ PySem.W.keepIn K (.ref f) = true ∧ Binds K fd ps [] ∧ FnOk Pr w K mg base (L2.CX Pr w) k f fd ps (spD C P k n) := fun k hk n x hn => by
      obtain ⟨f, fd, ps, dd⟩ := (ok.df n x hn).ex
      have F := ih0 k hk n x hn f fd ps dd
      obtain ⟨st, N, df, oc, od, kV, doc, pm, an, cdv, ctv, osl, e0, e1, e2, kp, lk, hcd, b, S, e3, h1, h2, ck⟩ := dd.ex
      exact ⟨f, fd, ps, e1, e2, kp, b, F⟩
    by_cases hkd : k ≤ d
    · exact ih0 k hkd n x hn f fd ps dd
    obtain rfl : k = d + 1 := by omega
    obtain ⟨st, N, df, oc, od, kV, doc, pm, an, cdv, ctv, osl, rfl, e1, e2, kp, lk, hcd, b, S, e3, h1, h2, ck⟩ := dd.ex
    have hpl : ps.length ≤ N.length := by have := congrArg List.length S.pre; rw [List.length_take] at this; omega
    -- the body is run
    have dn : ∀ {vs H Q E}, spD C P (d + 1) n vs H Q E → ∃ xi ρ s args, SR { C with xi := xi } ρ H s ∧ Reps { C with xi := xi } ρ H args vs ∧ args.length = ps.length ∧
        ResS { C with xi := xi } ρ H (evS P (callD P d) df.body (args.map some ++ List.replicate (df.nl - df.np) none) s) { nx := fun _ H' => Q .non H', rt := Q } (fun cls d _ H => E cls d H) := fun {vs H Q E} ⟨xi, ρ, s, args, S, r, h⟩ => by
      simp only [callD, e3] at h
      by_cases hl : args.length = df.np
      · rw [if_pos hl] at h
        refine ⟨xi, ρ, s, args, S, r, hl.trans h1, ?_⟩
        cases e : evS P (callD P d) df.body (args.map some ++ List.replicate (df.nl - df.np) none) s with
        | err => rw [e] at h; exact h
        | exc c l env' s' =>
          rw [e] at h
          exact fun ρ' H' σ' a d g S _ ec xr => h ρ' H' a d g S ec xr
        | ok fl env' s' =>
          rw [e] at h
          cases fl with
          | nx => exact fun ρ' H' σ' g S _ => h ρ' H' .non g S Rep.mkN
          | bk => exact h.elim
          | ct => exact h.elim
          | rt w => exact fun ρ' H' v g S r => h ρ' H' v g S r
      · rw [if_neg hl] at h
        exact h.elim
    refine fn_of lk hcd S (fun vs H Q E h => ?_) fun A outer s H vs Q E hr h => ?_
    · obtain ⟨xi, ρ, s, args, _, r, hl, _⟩ := dn h
      rw [← r.length, hl]
    · obtain ⟨xi, ρ, s0, args, S0, r, hl, q⟩ := dn h
      have e5 : args.map some ++ List.replicate (df.nl - df.np) none = args.map some ++ List.replicate (N.length - args.length) none := by rw [h2, h1, hl]
      rw [e5] at q
      have sc : Sc (cxOf (L2.CX Pr w) Pr w K mg base N x (defScope st) f cdv A outer s H E) (defScope st) true := by
        refine ⟨fun x h => h, fun x h => ⟨?_, .inl rfl⟩, fun x h => h, fun x h => h, fun x h => h⟩
        rcases h with h | ⟨_, h⟩
        · exact .inl h
        · exact .inr h
      have er : Er (cxOf (L2.CX Pr w) Pr w K mg base N x (defScope st) f cdv A outer s H E) { C with xi := xi } xs := ⟨fun m y hm => (ok.er m y hm).ex, fun m y f hm => (ok.ef m y f hm).ex⟩
      have cn : ∀ (m : Nat) (y : Str), Nn.cns[m]? = some y → ∃ u v w, mg y = some u ∧ RelV v u ∧ P.consts[m]? = some w ∧ ∀ xi ρ H, Rep { C with xi := xi } ρ H w v := fun m y hm => by
        obtain ⟨u, v, w, q1, q2, q3, q4⟩ := (ok.cn m y hm).ex
        exact ⟨u, v, w, q1, q2, q3, fun xi ρ H => q4 xi ρ H⟩
      rcases ck with ck | ⟨ck, c, Pt, q1, q2, q3, q4⟩
      · have ct : Ct (cxOf (L2.CX Pr w) Pr w K mg base N x (defScope st) f cdv A outer s H E) { C with xi := xi } P Nn.no d (fun cls d _ H => E cls d H) :=
          ⟨ok.hK, S.nd, rfl, hr, takes_of rfl rfl rfl rfl, ok.blt, fun k hk m y hm => ih k hk m y hm, cn, fun m y hm => ⟨(ok.tb m y hm).ex⟩, fun m y hm => by simp [Nm.no] at hm⟩
        exact ⟨tS { C with xi := xi } P (callD P d) (fun cls d _ H => E cls d H) df.body, sndS S.kind er (passes_of rfl) ct sc df.body _ ck, ρ, s0, _, startEnv r (by omega), S0, q⟩
      · have ct : Ct (cxOf (L2.CX Pr w) Pr w K mg base N x (defScope st) f cdv A outer s H E) { C with xi := xi } P Nn d (fun cls d _ H => E cls d H) :=
          ⟨ok.hK, S.nd, rfl, hr, takes_of rfl rfl rfl rfl, ok.blt, fun k hk m y hm => ih k hk m y hm, cn, fun m y hm => ⟨(ok.tb m y hm).ex⟩, fun m y hm => by
            obtain ⟨row, er, tk⟩ := ok.tl m y hm
            exact ⟨⟨row, er, ⟨tk.ex⟩⟩, c, Pt, q1, TB _ q2, q3, q4⟩⟩
        exact ⟨tS { C with xi := xi } P (callD P d) (fun cls d _ H => E cls d H) df.body, sndS S.kind er (passes_of rfl) ct sc df.body _ ck, ρ, s0, _, startEnv r (by omega), S0, q⟩
end
end G

set_option Elab.async false
set_option linter.all false
set_option autoImplicit false
set_option maxRecDepth 100000
set_option maxHeartbeats 4000000
/-! GE: from the top's facts to a law's end. -/
namespace G
open PySem PySem.Spec PyProof.Rows L2
/-- a def: its name, its statement, its slots, its parameters, its form, whether it hands lambdas on -/
structure DD where
  x : Str
  st : Stmt
  N : List Str
  ps : List Str
  df : Def
  lam : Bool
/-- a teller: what it tells of each raised class -/
structure TD where
  x : Str
  st : Stmt
  row : List (Option Tl)
/-- a program: defs, tellers, constants, raised classes, classes of clauses, what is a kind of what -/
structure Pk where
  ds : List DD
  tls : List TD
  cs : List (Str × W)
  xs : List (Str × Option Str)
  hs : List Str
  exms : List (Str × Str × Bool)
  tbs : List (Str × List (List Nat × W))
  fuel : Nat
  lam : Option Str
def Pk.nn (k : Pk) : Nm := ⟨k.ds.map (·.x), k.cs.map (·.1), k.tls.map (·.x), k.tbs.map (·.1)⟩
def Pk.pg (k : Pk) : Pg := ⟨k.ds.map (·.df), k.cs.map (·.2), k.fuel, k.tls.map (·.row), k.tbs.map (·.2)⟩
def fnD (x : Str) (st : Stmt) : He.FnD := ⟨(x, none), x, x, defArgs st, defBody st, defScope st⟩
def Pk.fn (k : Pk) : List He.FnD := k.ds.map (fun d => fnD d.x d.st) ++ k.tls.map fun d => fnD d.x d.st
def cnF : Str × W → He.Fa
  | (x, .int i) => .int x i
  | (x, .str l) => .str x (strOf l)
  | (x, .tup _) => .glo x
  | (x, _) => .free x
def wB : W → Bool
  | .str l => l.all (· < 0x110000)
  | _ => false
def cnB : W → Bool
  | .int _ => true
  | .str l => l.all (· < 0x110000)
  | .tup l => l.all wB
  | _ => false
/-- a written tuple of texts, as it stands -/
def vStr : Value → Option Str
  | .str y _ => some y
  | _ => none
def wStr : W → Str
  | .str l => strOf l
  | _ => Str.empty
def vStrs : List Value → Option (List Str)
  | [] => some []
  | v :: r => match vStr v with
    | some y => match vStrs r with
      | some ys => some (y :: ys)
      | none => none
    | none => none
def tupR (K : PySem.W.Frag) (x : Str) : Option (List Str) := match K.lookup (He.ga K x) with
  | some o => (match o.cls with
    | .type t => (match o.data with
      | .seq its _ => if t = "tuple" ∧ its.size ≤ sizeLine then vStrs its.toList else none
      | _ => none)
    | _ => none)
  | none => none
def tupCk (K : PySem.W.Frag) (cs : List (Str × W)) : Bool := cs.all fun q => match q.2 with
  | .tup l => decide (tupR K q.1 = some (l.map wStr))
  | _ => true
theorem vStrs_vals : ∀ {its : List Value} {ys : List Str}, vStrs its = some ys → L2.Vals (ys.map V.str) its
  | [], ys, e => by cases e; exact .nil
  | v :: r, ys, e => by
    unfold vStrs at e
    cases v <;> simp only [vStr] at e <;> try (cases e; done)
    cases h : vStrs r with
    | none => rw [h] at e; cases e
    | some zs =>
      rw [h] at e
      cases e
      exact .cons ⟨_, rfl⟩ (vStrs_vals h)
theorem tupR_ok {K : PySem.W.Frag} {x : Str} {ys : List Str} (e : tupR K x = some ys) : KT K (He.ga K x) (ys.map V.str) := by
  unfold tupR at e
  split at e <;> try (cases e; done)
  rename_i o e1
  split at e <;> try (cases e; done)
  rename_i t e2
  split at e <;> try (cases e; done)
  rename_i its n e3
  split at e <;> try (cases e; done)
  rename_i hc
  exact ⟨o, its, n, e1, by rw [e2, hc.1], e3, hc.2, vStrs_vals e⟩
theorem reps_strs {C : Cn} {ρ : List Addr} {H : Hp} : ∀ {l : List W}, l.all wB = true → Reps C ρ H l ((l.map wStr).map V.str)
  | [], _ => by simp [Reps]
  | w :: r, h => by
    simp only [List.all_cons, Bool.and_eq_true] at h
    simp only [List.map_cons, Reps]
    refine ⟨?_, reps_strs h.2⟩
    cases w <;> try (cases h.1; done)
    exact Rep.mkS fun z hz => by simpa [wB] using List.all_eq_true.mp h.1 z hz
/-! written values, written dicts -/
mutual
def wrB (K : PySem.W.Frag) : W → Value → Bool
  | .non, u => (match u with | .none => true | _ => false)
  | .bl b, u => (match u with | .bool c => b == c | _ => false)
  | .int i, u => (match u with | .int j _ => i == j | _ => false)
  | .str l, u => (match u with | .str x _ => x == strOf l && l.all (· < 0x110000) | _ => false)
  | .tup ws, u => (match u with
    | .ref a => (match K.lookup a with
      | some o => (match o.cls, o.data with
        | .type t, .seq its _ => decide (t = "tuple") && decide (its.size ≤ sizeLine) && wrsB K ws its.toList
        | _, _ => false)
      | none => false)
    | _ => false)
  | _, _ => false
def wrsB (K : PySem.W.Frag) : List W → List Value → Bool
  | [], us => us.isEmpty
  | w :: ws, us => (match us with
    | [] => false
    | u :: us => wrB K w u && wrsB K ws us)
end
mutual
theorem wrB_ok {K : PySem.W.Frag} : ∀ (w : W) (u : Value), wrB K w u = true → ∃ v, RelV v u ∧ ∀ (C : Cn) (ρ : List Addr) (H : Hp), C.K = K → Rep C ρ H w v
  | .non, u, h => by
    simp only [wrB] at h
    split at h
    · exact ⟨.non, rfl, fun _ _ _ _ => Rep.mkN⟩
    · cases h
  | .bl b, u, h => by
    simp only [wrB] at h
    split at h
    · have := eq_of_beq h
      subst this
      exact ⟨.bl b, rfl, fun _ _ _ _ => Rep.mkB⟩
    · cases h
  | .int i, u, h => by
    simp only [wrB] at h
    split at h
    · have := eq_of_beq h
      subst this
      exact ⟨.int i, ⟨_, rfl⟩, fun _ _ _ _ => Rep.mkI⟩
    · cases h
  | .str l, u, h => by
    simp only [wrB] at h
    split at h
    · simp only [Bool.and_eq_true, beq_iff_eq, List.all_eq_true, decide_eq_true_eq] at h
      obtain ⟨rfl, h2⟩ := h
      exact ⟨.str (strOf l), ⟨_, rfl⟩, fun _ _ _ _ => Rep.mkS h2⟩
    · cases h
  | .tup ws, u, h => by
    simp only [wrB] at h
    split at h <;> try (cases h; done)
    rename_i a
    split at h <;> try (cases h; done)
    rename_i o e1
    split at h <;> try (cases h; done)
    rename_i t its n e2 e3
    simp only [Bool.and_eq_true, decide_eq_true_eq] at h
    obtain ⟨⟨h1, h2⟩, h3⟩ := h
    obtain ⟨vs, r, k⟩ := wrsB_ok ws its.toList h3
    refine ⟨.ref a, rfl, fun C ρ H hC => ?_⟩
    simp only [Rep]
    exact ⟨a, vs, rfl, .inr ⟨o, its, n, by rw [hC]; exact e1, by rw [e2, h1], e3, h2, r⟩, k C ρ H hC⟩
  | .htup _, u, h | .lst _, u, h | .dct _ _, u, h | .ref _, u, h | .scr _, u, h | .ty _, u, h | .fn _, u, h => by simp [wrB] at h
theorem wrsB_ok {K : PySem.W.Frag} : ∀ (ws : List W) (us : List Value), wrsB K ws us = true → ∃ vs, L2.Vals vs us ∧ ∀ (C : Cn) (ρ : List Addr) (H : Hp), C.K = K → Reps C ρ H ws vs
  | [], us, h => by
    simp only [wrsB, List.isEmpty_iff] at h
    subst h
    exact ⟨[], .nil, fun _ _ _ _ => by simp [Reps]⟩
  | w :: ws, us, h => by
    simp only [wrsB] at h
    split at h
    · cases h
    · rename_i u us'
      simp only [Bool.and_eq_true] at h
      obtain ⟨v, r1, k1⟩ := wrB_ok w u h.1
      obtain ⟨vs, r2, k2⟩ := wrsB_ok ws us' h.2
      exact ⟨v :: vs, .cons r1 r2, fun C ρ H hC => by simp only [Reps]; exact ⟨k1 C ρ H hC, k2 C ρ H hC⟩⟩
end
def entB (K : PySem.W.Frag) : List (List Nat × W) → List DictEntry → Bool
  | [], es => es.isEmpty
  | p :: ps, es => (match es with
    | [] => false
    | e :: es => (match e.key with | .str x _ => x == strOf p.1 && p.1.all (· < 0x110000) | _ => false) && wrB K p.2 e.val && entB K ps es)
def tabV (K : PySem.W.Frag) (q : Str × List (List Nat × W)) : Bool := match K.lookup (He.ga K q.1) with
  | some ⟨_, _, .dict es _, _⟩ => entB K q.2 es.toList
  | _ => false
theorem strOf_inj {k l : List Nat} (h : strOf k = strOf l) : k = l := by
  unfold strOf at h
  injection h with h
  exact Array.toList_inj.mpr h |> fun z => by simpa using z
theorem entB_ok {K : PySem.W.Frag} {k : List Nat} : ∀ {ps : List (List Nat × W)} {es : List DictEntry}, entB K ps es = true →
    (∃ w u v, lookP k ps = some w ∧ (∃ e, es.find? (·.key.isStr (strOf k)) = some e ∧ e.val = u) ∧ RelV v u ∧ ∀ (C : Cn) ρ H, C.K = K → Rep C ρ H w v) ∨ (lookP k ps = none ∧ es.find? (·.key.isStr (strOf k)) = none ∧ es.any (·.refKey) = false)
  | [], es, h => by
    simp only [entB, List.isEmpty_iff] at h
    subst h
    exact .inr ⟨rfl, rfl, rfl⟩
  | p :: ps, es, h => by
    simp only [entB] at h
    split at h
    · cases h
    · rename_i e es'
      simp only [Bool.and_eq_true] at h
      obtain ⟨⟨h1, h2⟩, h3⟩ := h
      split at h1
      · rename_i x t ek
        simp only [Bool.and_eq_true, beq_iff_eq] at h1
        obtain ⟨rfl, _⟩ := h1
        have ks : e.key.isStr (strOf k) = decide (p.1 = k) := by
          rw [ek]
          by_cases hk : p.1 = k
          · subst hk
            simp [Value.isStr]
          · have : strOf p.1 ≠ strOf k := fun q => hk (strOf_inj q)
            simp [Value.isStr, hk, this]
        have rk : e.refKey = false := by
          unfold DictEntry.refKey
          rw [ek]
        by_cases hk : p.1 = k
        · obtain ⟨v, r, q⟩ := wrB_ok p.2 e.val h2
          refine .inl ⟨p.2, e.val, v, by simp [lookP, hk], ⟨e, ?_, rfl⟩, r, q⟩
          rw [List.find?_cons, ks]
          simp [hk]
        · rcases entB_ok (k := k) h3 with ⟨w, u, v, e1, ⟨e', e2, e3⟩, r, q⟩ | ⟨e1, e2, e3⟩
          · refine .inl ⟨w, u, v, by simp [lookP, hk, e1], ⟨e', ?_, e3⟩, r, q⟩
            rw [List.find?_cons, ks]
            simp [hk, e2]
          · refine .inr ⟨by simp [lookP, hk, e1], ?_, ?_⟩
            · rw [List.find?_cons, ks]
              simp [hk, e2]
            · rw [List.any_cons, rk, e3]; rfl
      · cases h1
theorem tab_ok {K : PySem.W.Frag} {q : Str × List (List Nat × W)} (h : tabV K q = true) (k : List Nat) :
    (∃ w u v, lookP k q.2 = some w ∧ PySem.W.nsIn K (He.ga K q.1) (strOf k) = some (some u) ∧ RelV v u ∧ ∀ (C : Cn) ρ H, C.K = K → Rep C ρ H w v) ∨ (lookP k q.2 = none ∧ PySem.W.nsIn K (He.ga K q.1) (strOf k) = some none) := by
  unfold tabV at h
  split at h
  · rename_i c dd es n sl e
    unfold PySem.W.nsIn
    rw [e]
    dsimp only
    rcases entB_ok (k := k) h with ⟨w, u, v, e1, ⟨e', e2, e3⟩, r, q⟩ | ⟨e1, e2, e3⟩
    · exact .inl ⟨w, u, v, e1, by rw [e2, ← e3], r, q⟩
    · exact .inr ⟨e1, by rw [e2, e3]; rfl⟩
  · cases h
def tabsV (K : PySem.W.Frag) (ts : List (Str × List (List Nat × W))) : Bool := ts.all (tabV K)
/-- the raised classes that keep nothing -/
def Pk.xp (k : Pk) : List Str := k.xs.filterMap fun q => if q.2.isNone then some q.1 else none
def Pk.fa (k : Pk) : List He.Fa := k.ds.map (fun d => .glo d.x) ++ (k.ds.map (fun d => .keep d.x) ++ (k.tls.map (fun d => .glo d.x) ++ (k.tls.map (fun d => .keep d.x) ++ (bnames.map .free ++ (k.cs.map cnF ++ (k.xs.map (fun q => .glo q.1) ++ (k.xp.map .exc ++ (k.hs.map .glo ++ (k.exms.map (fun q => .exm q.1 q.2.1 q.2.2) ++ k.tbs.map fun q => .glo q.1)))))))))
section
variable {K : PySem.W.Frag} {fa : List He.Fa} {fn : List He.FnD}
theorem says_fact (c : He.SaysE fa fn K) {f : He.Fa} (h : f ∈ fa) : f.ok K = true := by
  have c1 := (He.ba (show ((fa.all fun f => f.ok K) && fn.all fun d => (He.Fa.code d.at_ d.qual).ok K) = true from congrArg (fun z : He.Al => z.1) c)).1
  exact List.all_eq_true.mp c1 f h
theorem says_fn (c : He.SaysE fa fn K) {d : He.FnD} (h : d ∈ fn) : ∃ oc od osl kV doc pm an cdv ct, K.lookup (He.fAd K d.at_) = some ⟨oc, od, .func (PySem.W.fnOf d.name d.qual d.params d.body d.scope .none kV doc pm an cdv ct), osl⟩ ∧ PySem.W.codeIn K cdv d.qual = true := by
  have c2 := (He.ba (show ((fa.all fun f => f.ok K) && fn.all fun d => (He.Fa.code d.at_ d.qual).ok K) = true from congrArg (fun z : He.Al => z.1) c)).2
  have e : fn.map (fun d => He.fnObs K d.at_) = fn.map He.FnD.val := congrArg (fun z : He.Al => z.2) c
  obtain ⟨i, hi⟩ := List.mem_iff_getElem?.mp h
  have e2 : (fn.map fun d => He.fnObs K d.at_)[i]? = (fn.map He.FnD.val)[i]? := by rw [e]
  rw [List.getElem?_map, List.getElem?_map, hi] at e2
  exact He.fn_ok (Option.some.inj e2) (List.all_eq_true.mp c2 d h)
end
/-! ### the table of a def that hands lambdas on -/
/-- the part of the heap that is known, without tables -/
def noTab (g : Addr → Option Obj) (a : Addr) : Bool := match g a with
  | some ⟨_, _, .fields vs, _⟩ => decide (vs.size ≠ 0)
  | _ => true
/-- the names that facts speak of -/
def faN : He.Fa → List Str
  | .glo x => [x]
  | .exc x => [x]
  | .exm x y _ => [x, y]
  | _ => []
/-- what the module's names among xs stand for -/
def namedG (g : Addr → Option Obj) (xs : List Str) : List Addr := match g mainGlobals with
  | some ⟨_, _, .dict es _, _⟩ => es.toList.flatMap fun e => if xs.any (fun x => e.key.isStr x) = true then He.refV e.val else []
  | _ => []
/-- these, and what they reach in n steps -/
def refs2 (o : Obj) : List Addr := He.refsO o ++ match o.data with
  | .func fd => fd.closure.map (·.2)
  | _ => []
def layG (g : Addr → Option Obj) : Nat → List Addr → List Addr
  | 0, as => as
  | n + 1, as => as ++ layG g n (as.flatMap fun a => match g a with
    | some o => refs2 o
    | none => [])
def frK (n : Nat) (xs : List Str) (g : Addr → Option Obj) : PySem.W.Frag := He.frG g ((mainGlobals :: cStatics :: layG g n (namedG g xs)).filter (noTab g))
def tabOk (K : PySem.W.Frag) (g : Addr → Option Obj) (x : Str) : Option (Addr × Addr) :=
  match K.lookup (He.ga K x) with
  | some ⟨_, _, .func fd, _⟩ => (match fd.code with
    | .ref c => (match g c with
      | some ⟨.type t, _, .fields vs, _⟩ => (match (vs[11]? : Option Value) with
        | some (.ref P) => (match vs.getD 18 .none, vs.getD 7 .none, vs.getD 9 .none, vs.getD 10 .none with
          | .str _ _, .int _ _, .bool _, .int _ _ => (match g P with
            | some ⟨.none, none, .fields us, sl⟩ => if t = "code" ∧ c ≠ P ∧ us.size = 0 ∧ sl.size = 0 ∧ (K.lookup P).isNone = true then some (c, P) else none
            | _ => none)
          | _, _, _, _ => none)
        | _ => none)
      | _ => none)
    | _ => none)
  | _ => none
structure TabAt (K : PySem.W.Frag) (h : Heap) (x : Str) (c P : Addr) : Prop where
  code : ∃ oc od fd osl, K.lookup (He.ga K x) = some ⟨oc, od, .func fd, osl⟩ ∧ fd.code = .ref c
  hd : PySem.W.CodeHd h c P
  emp : h.get? P = some { cls := .none, data := .fields #[] }
  no : K.lookup P = none
theorem tabOk_at {K : PySem.W.Frag} {h : Heap} {x : Str} {c P : Addr} (e : tabOk K h.get? x = some (c, P)) : TabAt K h x c P := by
  unfold tabOk at e
  split at e <;> try (cases e; done)
  rename_i oc od fd osl e1
  split at e <;> try (cases e; done)
  rename_i c' e2
  split at e <;> try (cases e; done)
  rename_i t od2 vs sl2 e3
  split at e <;> try (cases e; done)
  rename_i P' e4
  split at e <;> try (cases e; done)
  rename_i file tf flags tg inF text tt e5 e6 e7 e8
  split at e <;> try (cases e; done)
  rename_i us sl e9
  split at e <;> try (cases e; done)
  rename_i hc
  obtain ⟨h1, h2, h3, h4, h5⟩ := hc
  simp only [Option.some.injEq, Prod.mk.injEq] at e
  obtain ⟨rfl, rfl⟩ := e
  subst h1
  refine ⟨⟨oc, od, fd, osl, e1, e2⟩, ⟨_, vs, file, tf, flags, tg, inF, text, tt, e3, rfl, rfl, e4, ?_, e5, e6, e7, e8, h2⟩, ?_, by simpa using h5⟩
  · rw [Array.getD_eq_getD_getElem?, e4]; rfl
  · rw [e9]
    rw [Array.size_eq_zero_iff.mp h3, Array.size_eq_zero_iff.mp h4]
/-! ### own classes of errors that keep a field -/
def oexB (K : PySem.W.Frag) (C : Addr) : Bool := (match K.lookup C with
    | some ⟨.type t, _, .cls cd, sl⟩ => (match cd.mro, sl.toList with
      | .ref C' :: bm, [_, _, _, _, some (.builtin n), _] => decide (t = "type") && decide (C' = C) && decide (n = "ValueError.__new__") && !cd.hasDel && cd.hasDict && PySem.HandSPX.refsVE bm
      | _, _ => false)
    | _ => false) && decide (PySem.W.findIn K (.ref C) "__setattr__" = some (some (.builtin "object.__setattr__"))) && decide (PySem.W.subIn K (.ref C) (.type "BaseException") = some true) && decide (PySem.W.typeIn K (.ref C) = some (.type "type")) && PySem.W.keepIn K (.ref C)
theorem oexB_ok {K : PySem.W.Frag} {C : Addr} (h : oexB K C = true) : OexC K C := by
  unfold oexB at h
  simp only [Bool.and_eq_true, decide_eq_true_eq] at h
  obtain ⟨⟨⟨⟨h1, h2⟩, h3⟩, h4⟩, h5⟩ := h
  refine ⟨?_, h2, h3, h4, h5⟩
  split at h1
  · rename_i t dd cd sl e1
    split at h1
    · rename_i C' bm a0 a1 a2 a3 n a5 e2 e3
      simp only [Bool.and_eq_true, decide_eq_true_eq, Bool.not_eq_true'] at h1
      obtain ⟨⟨⟨⟨⟨rfl, rfl⟩, rfl⟩, hd⟩, hh⟩, hb⟩ := h1
      have es : sl = #[a0, a1, a2, a3, some (.builtin "ValueError.__new__"), a5] := by
        apply Array.toList_inj.mp
        rw [e3]
      subst es
      obtain ⟨nm, bs, mro, ns, q, hdct, sn, sub, ab, col, del⟩ := cd
      simp only at e2 hd hh
      subst e2 hd hh
      exact ⟨nm, q, ns, bs, bm, sn, sub, ab, col, dd, a0, a1, a2, a3, a5, e1, hb⟩
    · cases h1
  · cases h1
theorem bind2 {name qual : Str} {ar br : Arg} {body : List Stmt} {scope : Scope} {cl : List (Str × Addr)} {kV doc pm cdv ct u v : Value} {an : Option Addr} (h : (br.arg == ar.arg) = false) :
    bindArgs (PySem.W.fnX name qual ⟨[], [ar, br], none, [], [], none, []⟩ body scope cl .none kV doc pm an cdv ct) ⟨[u, v], []⟩ = pure ([ar.arg, br.arg].zip [u, v]) := by
  have e1 : (([ar.arg, br.arg].zip [u, v]).lookup ar.arg).isNone = false := by simp [List.zip, List.lookup]
  have e2 : (([ar.arg, br.arg].zip [u, v]).lookup br.arg).isNone = false := by simp [List.zip, List.lookup, h]
  unfold bindArgs
  simp [seqItems?, e1, e2, List.zip, List.lookup, h]
  rfl
def scB (sc : Scope) (self a : Str) : Bool := decide (sc.names.lookup ("super" : Str) = some .globalImplicit) && decide (sc.names.lookup ("__class__" : Str) = some .free) && decide (sc.names.lookup self = some .local) && decide (sc.names.lookup a = some .local) && (sc.names.all fun y => !(decide (y.2 = .cell))) && decide (sc.kind = .function) && !sc.isCoroutine && !sc.isGenerator &&
  !(self == ("__debug__" : Str)) && !(a == ("__debug__" : Str)) && !(a == self)
def iniB (P : Program) (K : PySem.W.Frag) (C : Addr) (f : Str) : FuncData → Bool
  | ⟨_, qual, ⟨[], [ar, br], none, [], [], none, []⟩, .stmts [.Expr (.Call (.Attribute (.Call (.Name s1 _) [] [] _) s2 p2) [.Constant (.str _) _ _] [] p4) _, .Assign [.Attribute (.Name self _) fl _] (.Name a _) _], scope, gl, [(s3, cc)], .none, _, _, _, _, .ref cda, _, bl⟩ =>
    (s1 == ("super" : Str)) && (s2 == ("__init__" : Str)) && (fl == f) && (s3 == ("__class__" : Str)) && decide (gl = mainGlobals) && decide (bl = builtinsNs) && (ar.arg == self) && (br.arg == a) && (p2.endLine == p4.line) && PySem.W.codeIn K (.ref cda) qual && scB scope self a &&
    (match K.lookup cda with
      | some ⟨_, _, .fields vs, _⟩ => (match (vs[2]? : Option Value) with
        | some (.str file _) => (P.main.file : Str) == file
        | _ => false)
      | _ => false) &&
    (match K.lookup cc with
      | some ⟨_, _, .cell (some (.ref D)), _⟩ => decide (D = C)
      | _ => false)
  | _ => false
def xiB (P : Program) (K : PySem.W.Frag) (C : Addr) (f : Str) : Bool := oexB K C && xfB K C && decide (PySem.W.findIn K (.ref C) f = some none) && (PySem.W.clsIn K C).isSome && decide (PySem.W.mroIn K C (.ref C) = some true) && decide (PySem.W.ks_superIn K C C "__init__" = some (some (.builtin "ValueError.__init__"))) &&
  decide (PySem.W.subIn K (.ref C) (.type "ValueError") = some true) && decide (PySem.W.nsIn K mainGlobals "super" = some none) && decide (PySem.W.nsIn K cStatics "thirdparty.any" = some none) && !(P.main.scope.names.lookup ("super" : Str)).isSome &&
  (match PySem.W.findIn K (.ref C) "__init__" with
    | some (some (.ref fI)) => decide (PySem.W.typeIn K (.ref fI) = some (.type "function")) && (match K.lookup fI with
      | some ⟨_, _, .func fd, _⟩ => iniB P K C f fd
      | _ => false)
    | _ => false)
theorem xiB_ok {P : Program} {K : PySem.W.Frag} {C : Addr} {f : Str} (h : xiB P K C f = true) : XiOk P K C f := by
  unfold xiB at h
  simp only [Bool.and_eq_true, decide_eq_true_eq, Bool.not_eq_true', Option.isSome_iff_exists] at h
  obtain ⟨⟨⟨⟨⟨⟨⟨⟨⟨⟨h1, h2⟩, h3⟩, ⟨cdC, h4⟩⟩, h5⟩, h6⟩, h7⟩, h8⟩, h9⟩, h10⟩, h11⟩ := h
  refine ⟨oexB_ok h1, xfB_ok h2, h3, ?_⟩
  split at h11
  · rename_i fI e1
    simp only [Bool.and_eq_true, decide_eq_true_eq] at h11
    obtain ⟨g1, h11⟩ := h11
    split at h11
    · rename_i oc od fd osl e2
      unfold iniB at h11
      split at h11
      · rename_i name qual ar br s1 p0 p1 s2 p2 msg j p3 p4 p5 self p6 fl p7 a p8 p9 scope gl s3 cc kV doc pm an cda ct bl
        simp only [Bool.and_eq_true, decide_eq_true_eq, beq_iff_eq] at h11
        obtain ⟨⟨⟨⟨⟨⟨⟨⟨⟨⟨⟨⟨rfl, rfl⟩, rfl⟩, rfl⟩, rfl⟩, rfl⟩, q1⟩, q2⟩, q3⟩, q4⟩, q5⟩, q6⟩, q7⟩ := h11
        split at q6
        · rename_i ccl cdd vs ccs e3
          split at q6
          · rename_i file tf e4
            split at q7
            · rename_i cl cld D csl e5
              have q7 := of_decide_eq_true q7
              subst q7
              unfold scB at q5
              simp only [Bool.and_eq_true, decide_eq_true_eq, Bool.not_eq_true', List.all_eq_true] at q5
              obtain ⟨⟨⟨⟨⟨⟨⟨⟨⟨⟨n1, n2⟩, n3⟩, n4⟩, n5⟩, n6⟩, n7⟩, n8⟩, d1⟩, d2⟩, d3⟩ := q5
              subst q1 q2
              exact ⟨fI, cc, cda, oc, ccl, cl, od, cdd, cld, osl, ccs, csl, name, qual, ar.arg, br.arg, msg, ⟨[], [ar, br], none, [], [], none, []⟩, scope, j, p0, p1, p2, p3, p4, p5, p6, p7, p8, p9, .none, kV, doc, pm, ct, an, vs, file, tf, ar, cdC, e1, g1, e2, q4, e3, e4, q6, e5, rfl, rfl,
                fun us hl => match us, hl with | [_, _], _ => bind2 d3, n1, n2, n3, n4, fun x hx => by simpa using n5 x hx, n6, n7, n8, by simpa using q3, d1, d2, d3, h4, h5, h6, h7, h8, h9, h10⟩
            · cases q7
          · cases q6
        · cases q6
      · cases h11
    · cases h11
  · cases h11
def xiAll (P : Program) (K : PySem.W.Frag) (xs : List (Str × Option Str)) : Bool := xs.all fun q => match q.2 with
  | some f => xiB P K (He.ga K q.1) f
  | none => true
abbrev Tbs : Type := List (Str × List (List Nat × W))
def tabD (K : PySem.W.Frag) (ts : Tbs) : List (Option (List (Option (Str × Int)))) := ts.map fun q => He.dicW K (He.ga K q.1)
def tabH (w : World) (ts : Tbs) : List (Option (List (Option (Str × Int)))) := ts.map fun q => some (He.keysIn w.params (q.2.map fun p => strOf p.1))
theorem tabD_ok {K : PySem.W.Frag} {w : World} {ts : Tbs} (h : tabD K ts = tabH w ts) {q : Str × List (List Nat × W)} (hq : q ∈ ts) : ∃ es n, KDict K w (He.ga K q.1) es n := by
  obtain ⟨i, hi⟩ := List.mem_iff_getElem?.mp hq
  have e2 : (tabD K ts)[i]? = (tabH w ts)[i]? := by rw [h]
  unfold tabD tabH at e2
  rw [List.getElem?_map, List.getElem?_map, hi] at e2
  exact He.dicW_ok (Option.some.inj e2)
/-- what is read off the written part -/
structure SaysG (P : Program) (w : World) (xs : List (Str × Option Str)) (fa : List He.Fa) (fn : List He.FnD) (cs : List (Str × W)) (ts : Tbs) (K : PySem.W.Frag) : Prop where
  says : He.SaysE fa fn K
  tup : tupCk K cs = true
  xi : xiAll P K xs = true
  tv : tabsV K ts = true
  td : tabD K ts = tabH w ts
/-- the Hook -/
def hookG (P : Program) (xs : List (Str × Option Str)) (n : Nat) (fa : List He.Fa) (fn : List He.FnD) (lam : Option Str) (cs : List (Str × W)) (ts : Tbs) : PySem.W.Hook where
  α := (He.Al × Bool) × List (Option (List (Option (Str × Int))))
  obs := fun s => ((He.obsE fa fn (frK n (fa.flatMap faN) s.heap.get?), (match lam with | some x => (tabOk (frK n (fa.flatMap faN) s.heap.get?) s.heap.get? x).isSome | none => true) && tupCk (frK n (fa.flatMap faN) s.heap.get?) cs && xiAll P (frK n (fa.flatMap faN) s.heap.get?) xs && tabsV (frK n (fa.flatMap faN) s.heap.get?) ts), tabD (frK n (fa.flatMap faN) s.heap.get?) ts)
  val := fun w => ((He.valE fn, true), tabH w ts)
  says := fun w h => ∃ K : PySem.W.Frag, K.In h ∧ SaysG P w xs fa fn cs ts K ∧ ∀ x, lam = some x → ∃ c P, TabAt K h x c P
  of := fun _ s e => by
    have e0 := (Prod.mk.inj e).1
    have b1 := He.ba (Prod.mk.inj e0).2
    have b2 := He.ba b1.1
    have b3 := He.ba b2.1
    refine ⟨frK n (fa.flatMap faN) s.heap.get?, He.frG_in, ⟨(Prod.mk.inj e0).1, b3.2, b2.2, b1.2, (Prod.mk.inj e).2⟩, fun x hx => ?_⟩
    have e2 := b3.1
    subst hx
    simp only at e2
    cases q : tabOk (frK n (fa.flatMap faN) s.heap.get?) s.heap.get? x with
    | none => rw [q] at e2; cases e2
    | some p => exact ⟨p.1, p.2, tabOk_at q⟩
  keeps := fun _ h h' ⟨K, hK, c, t⟩ k => by
    refine ⟨K, PySem.W.Frag.In.keeps hK k, c, fun x hx => ?_⟩
    obtain ⟨cc, P, t⟩ := t x hx
    refine ⟨cc, P, t.code, ?_, k _ _ t.emp, t.no⟩
    obtain ⟨o, vs, file, tf, flags, tg, inF, text, tt, e1, r⟩ := t.hd
    exact ⟨o, vs, file, tf, flags, tg, inF, text, tt, k _ _ e1, r⟩
def obG (P : Program) (xs : List (Str × Option Str)) (n : Nat) (fa : List He.Fa) (fn : List He.FnD) (lam : Option Str) (cs : List (Str × W)) (ts : Tbs) (s : PySem.W.SharedT) : (He.Al × Bool) × List (Option (List (Option (Str × Int)))) :=
  ((He.obsE fa fn (frK n (fa.flatMap faN) (HandSHeadRun.getT s)), (match lam with | some x => (tabOk (frK n (fa.flatMap faN) (HandSHeadRun.getT s)) (HandSHeadRun.getT s) x).isSome | none => true) && tupCk (frK n (fa.flatMap faN) (HandSHeadRun.getT s)) cs && xiAll P (frK n (fa.flatMap faN) (HandSHeadRun.getT s)) xs && tabsV (frK n (fa.flatMap faN) (HandSHeadRun.getT s)) ts), tabD (frK n (fa.flatMap faN) (HandSHeadRun.getT s)) ts)
theorem obG_eq {P : Program} {xs : List (Str × Option Str)} {n : Nat} {fa : List He.Fa} {fn : List He.FnD} {lam : Option Str} {cs : List (Str × W)} {ts : Tbs} (s : PySem.W.SharedT) : obG P xs n fa fn lam cs ts s = (hookG P xs n fa fn lam cs ts).obs s.abs := by
  have e : HandSHeadRun.getT s = s.abs.heap.get? := funext (HandSHeadRun.getT_eq s)
  unfold obG hookG
  rw [e]
/-! ### the program -/
/-- what is looked at once for each def -/
structure DChk (k : Pk) (d : DD) : Prop where
  sc : FnScope d.N d.ps (defScope d.st)
  np : d.df.np = d.ps.length
  nl : d.df.nl = d.N.length
  bd : ∀ (kV doc pm : Value) (an : Option Addr) (cdv ct : Value) (us : List Value), us.length = d.ps.length → bindArgs (PySem.W.fnOf d.x d.x (defArgs d.st) (defBody d.st) (defScope d.st) .none kV doc pm an cdv ct) ⟨us, []⟩ = pure (d.ps.zip us)
  ck : ckS (if d.lam = true then k.nn else k.nn.no) k.xs d.N (defScope d.st) d.df.body (defBody d.st) = true
def AllP {α : Type} (p : α → Prop) : List α → Prop
  | [] => True
  | a :: r => p a ∧ AllP p r
theorem AllP.get {α : Type} {p : α → Prop} : ∀ {l : List α}, AllP p l → ∀ a ∈ l, p a
  | [], _, _, h => nomatch h
  | b :: r, h, a, hm => by
    rcases List.mem_cons.mp hm with e | e
    · rw [e]; exact h.1
    · exact AllP.get h.2 a e
def Pk.cn (k : Pk) (K : PySem.W.Frag) (T : List (Addr × Str)) : Cn := ⟨K, fun n => (k.ds[n]?).map fun d => He.ga K d.x, fun n => (k.xs[n]?).map fun q => He.ga K q.1, fun _ => False, T, fun n => (k.xs[n]?).bind (·.2)⟩
def lamQ (x : Str) : Str := (x ++ ".<locals>.") ++ "<lambda>"
/-- a program's own part -/
structure PkOk (k : Pk) : Prop where
  ds : AllP (DChk k) k.ds
  cs : (k.cs.all fun q => cnB q.2) = true
  lm : ∀ d ∈ k.ds, d.lam = true → k.lam = some d.x
theorem pk_dat {k : Pk} (ok : PkOk k) {K : PySem.W.Frag} {h : Heap} {mg : Str → Option Value} (X : K.In h) (G : h.Ns mainGlobals mg) (c : He.SaysE k.fa k.fn K) (cs : List (Addr × Addr)) (T : List (Addr × Str))
    (hl : ∀ x, k.lam = some x → ∃ cc P, cs = [(cc, P)] ∧ T = [(P, lamQ x)] ∧ TabAt K h x cc P) (n : Nat) (d : DD) (hd : k.ds[n]? = some d) :
    ∃ fd, DData K mg k.nn k.xs k.pg (k.cn K T) cs n d.x (He.ga K d.x) fd d.ps ∧ (∀ us : List Value, us.length = d.ps.length → bindArgs fd ⟨us, []⟩ = pure (d.ps.zip us)) ∧ mg d.x = some (.ref (He.ga K d.x)) := by
  have hm := List.mem_of_getElem? hd
  obtain ⟨sc, np, nl, bd, ck⟩ := ok.ds.get d hm
  obtain ⟨oc, od, osl, kV, doc, pm, an, cdv, ct, lk, hcd⟩ := says_fn c (d := fnD d.x d.st) (by simp only [Pk.fn, List.mem_append]; exact .inl (List.mem_map_of_mem (f := fun d => fnD d.x d.st) hm))
  have hg := He.glo_ok X G (says_fact c (f := .glo d.x) (by simp only [Pk.fa, List.mem_append]; exact .inl (List.mem_map_of_mem (f := fun d => He.Fa.glo d.x) hm)))
  refine ⟨_, ⟨d.st, d.N, d.df, oc, od, kV, doc, pm, an, cdv, ct, osl, rfl, by simp [Pk.cn, hd], hg,
    He.keep_ok (says_fact c (by simp only [Pk.fa, List.mem_append]; exact .inr (.inl (List.mem_map_of_mem (f := fun d => He.Fa.keep d.x) hm)))), lk, hcd, .all (bd kV doc pm an cdv ct), sc, by simp [Pk.pg, hd], np, nl, ?_⟩, bd kV doc pm an cdv ct, hg⟩
  cases e : d.lam with
  | false => rw [e] at ck; exact .inl ck
  | true =>
    rw [e] at ck
    obtain ⟨cc, P, e1, e2, t⟩ := hl d.x (ok.lm d hm e)
    obtain ⟨oc', od', fd', osl', lk', hc'⟩ := t.code
    have lk2 : K.lookup (He.ga K d.x) = some ⟨oc, od, .func (PySem.W.fnOf d.x d.x (defArgs d.st) (defBody d.st) (defScope d.st) .none kV doc pm an cdv ct), osl⟩ := lk
    rw [lk2] at lk'
    cases lk'
    refine .inr ⟨ck, cc, P, hc', by rw [e1]; simp, ?_, fun p hp _ => ?_⟩
    · show (P, _) ∈ T
      rw [e2]; exact List.mem_singleton.mpr rfl
    · have hp : p ∈ T := hp
      rw [e2] at hp
      rw [List.mem_singleton.mp hp]; rfl
theorem pk_ok {Pr : Program} {w : World} {k : Pk} (ok : PkOk k) {K : PySem.W.Frag} {h : Heap} {mg : Str → Option Value} (X : K.In h) (G : h.Ns mainGlobals mg) (c : He.SaysE k.fa k.fn K) (ct : tupCk K k.cs = true) (cx : xiAll Pr K k.xs = true) (ctv : tabsV K k.tbs = true) (ctd : tabD K k.tbs = tabH w k.tbs) (cs : List (Addr × Addr)) (T : List (Addr × Str))
    (hl : ∀ x, k.lam = some x → ∃ cc P, cs = [(cc, P)] ∧ T = [(P, lamQ x)] ∧ TabAt K h x cc P)
    (tl : ∀ t ∈ k.tls, TellK K mg (k.cn K T) t.x t.row) : PgOk Pr w K mg k.nn k.xs k.pg (k.cn K T) cs where
  hK := rfl
  blt := fun x hx => He.free_ok X G (says_fact c (by simp only [Pk.fa, List.mem_append]; exact .inr (.inr (.inr (.inr (.inl (List.mem_map_of_mem hx)))))))
  df := fun n x hn => by
    simp only [Pk.nn, List.getElem?_map, Option.map_eq_some_iff] at hn
    obtain ⟨d, hd, rfl⟩ := hn
    obtain ⟨fd, D, _⟩ := pk_dat ok X G c cs T hl n d hd
    exact ⟨_, fd, d.ps, D⟩
  cn := fun n x hn => by
    simp only [Pk.nn, List.getElem?_map, Option.map_eq_some_iff] at hn
    obtain ⟨⟨y, w⟩, hd, rfl⟩ := hn
    have hm := List.mem_of_getElem? hd
    have f := says_fact c (f := cnF (y, w)) (by simp only [Pk.fa, List.mem_append]; exact .inr (.inr (.inr (.inr (.inr (.inl (List.mem_map_of_mem hm)))))))
    have b := List.all_eq_true.mp ok.cs _ hm
    have e : k.pg.consts[n]? = some w := by simp [Pk.pg, hd]
    cases w <;> try (simp [cnB] at b; done)
    · rename_i i
      obtain ⟨t, q⟩ := He.int_ok X G f
      exact ⟨_, .int i, _, q, ⟨t, rfl⟩, e, fun xi ρ H => Rep.mkI⟩
    · rename_i l
      obtain ⟨t, q⟩ := He.str_ok X G f
      exact ⟨_, .str (strOf l), _, q, ⟨t, rfl⟩, e, fun xi ρ H => Rep.mkS fun z hz => by simpa using List.all_eq_true.mp b z hz⟩
    · rename_i l
      have q := He.glo_ok X G f
      have e1 := of_decide_eq_true (List.all_eq_true.mp ct _ hm)
      refine ⟨_, .ref (He.ga K y), _, q, rfl, e, fun xi ρ H => ?_⟩
      simp only [Rep]
      exact ⟨_, _, rfl, .inr (tupR_ok e1), reps_strs b⟩
  er := fun n x hn => by
    have hm0 := List.mem_of_getElem? hn
    have hm : x ∈ k.xp := List.mem_filterMap.mpr ⟨_, hm0, rfl⟩
    obtain ⟨h1, h2, h3, h4⟩ := He.exc_ok (says_fact c (f := .exc x) (by simp only [Pk.fa, List.mem_append]; exact .inr (.inr (.inr (.inr (.inr (.inr (.inr (.inl (List.mem_map_of_mem hm))))))))))
    exact ⟨by simp [Pk.cn, hn], He.ga K x, "ValueError", "ValueError.__new__", "ValueError.__init__", He.veBase, by simp [Pk.cn, hn], He.glo_ok X G (says_fact c (f := .glo x) (by simp only [Pk.fa, List.mem_append]; exact .inr (.inr (.inr (.inr (.inr (.inr (.inl (List.mem_map_of_mem (f := fun q : Str × Option Str => He.Fa.glo q.1) hm0))))))))), PySem.F.excBase_ValueError, h1, h2, h3, h4⟩
  ef := fun n x f hn => by
    have hm0 := List.mem_of_getElem? hn
    exact ⟨by simp [Pk.cn, hn], He.ga K x, by simp [Pk.cn, hn], He.glo_ok X G (says_fact c (f := .glo x) (by simp only [Pk.fa, List.mem_append]; exact .inr (.inr (.inr (.inr (.inr (.inr (.inl (List.mem_map_of_mem (f := fun q : Str × Option Str => He.Fa.glo q.1) hm0))))))))), xiB_ok (List.all_eq_true.mp cx _ hm0)⟩
  tb := fun n x hn => by
    simp only [Pk.nn, List.getElem?_map, Option.map_eq_some_iff] at hn
    obtain ⟨q, hd, rfl⟩ := hn
    have hm := List.mem_of_getElem? hd
    obtain ⟨es, m, D⟩ := tabD_ok ctd hm
    refine ⟨He.ga K q.1, q.2, es, m, He.glo_ok X G (says_fact c (f := .glo q.1) (by simp only [Pk.fa, List.mem_append]; exact .inr (.inr (.inr (.inr (.inr (.inr (.inr (.inr (.inr (.inr (List.mem_map_of_mem (f := fun q : Str × List (List Nat × W) => He.Fa.glo q.1) hm)))))))))))), by simp [Pk.pg, hd], D, fun z hz => ?_⟩
    rcases tab_ok (List.all_eq_true.mp ctv q hm) z with ⟨w, u, v, e1, e2, e3, e4⟩ | ⟨e1, e2⟩
    · exact .inl ⟨w, u, v, e1, e2, e3, fun xi ρ H => e4 _ ρ H rfl⟩
    · exact .inr ⟨e1, e2⟩
  tl := fun n x hn => by
    simp only [Pk.nn, List.getElem?_map, Option.map_eq_some_iff] at hn
    obtain ⟨t, ht, rfl⟩ := hn
    exact ⟨t.row, by simp [Pk.pg, ht], tl t (List.mem_of_getElem? ht)⟩
end G

set_option Elab.async false
set_option linter.all false
set_option autoImplicit false
set_option maxRecDepth 100000
set_option maxHeartbeats 4000000
/-! GF: the end: a law whose form answers True keeps its promise. -/
namespace G
open PySem PySem.Spec PyProof.Rows L2
/-- the form of the law answers True for every script -/
def LawTrue (k : Pk) (d i n : Nat) : Prop := ∀ ns : List Int, ns.length ≤ n → (∀ z ∈ ns, Builtin.Int.intBits z ≤ 1048576) → ∃ s', callD k.pg d i [.scr ns] [] = .ok (.bl true) s'
theorem law_sp {k : Pk} {K : PySem.W.Frag} {T : List (Addr × Str)} {cs : List (Addr × Addr)} {d i n : Nat} (hT : ∀ q ∈ T, ∃ p ∈ cs, q.1 = p.2) (L : LawTrue k d i n) (H : Hp) (a : Addr) (ns : List Int) (hl : ns.length ≤ n) (hb : ∀ z ∈ ns, Builtin.Int.intBits z ≤ 1048576)
    (hH : ∀ p ∈ cs, H p.2 = some (.tbl #[])) (hS : SqL K H a (ns.map V.int)) : spD (k.cn K T) k.pg d i [.ref a] H (fun v _ => v = .bl true) fun _ _ _ => False := by
  obtain ⟨s', e⟩ := L ns hl hb
  refine ⟨fun _ => False, [], [], [.scr ns], ⟨fun _ h => h.elim, fun q hq => ?_, rfl, List.nodup_nil, fun n xs h => by simp at h⟩, ?_, ?_⟩
  · obtain ⟨p, hp, e⟩ := hT q hq
    exact LamX.TabS.nil (by rw [e]; exact hH p hp)
  · refine Reps.one ?_
    simp only [Rep]
    refine ⟨a, rfl, ?_⟩
    rcases hS with h | h
    · exact .inl ⟨⟨by simp, fun h => h⟩, h⟩
    · exact .inr h
  · rw [e]
    exact fun ρ' H' v _ _ r => r.bl
/-- the end of a law -/
theorem law_at {l : PySem.W.OpenLaw} {w : World} {k : Pk} (ok : PkOk k) {K : PySem.W.Frag} {h : Heap} {mg : Str → Option Value} {f : Addr} {i d n : Nat} {x : Str} (X : K.In h) (G : h.Ns mainGlobals mg) (hf : mg "law" = some (.ref f)) (c : SaysG l.prog w k.xs k.fa k.fn k.cs k.tbs K)
    (tb : ∀ x, k.lam = some x → ∃ cc P, TabAt K h x cc P) (hi : k.nn.fns[i]? = some "law") (hps : ∀ dd, k.ds[i]? = some dd → dd.ps = [x])
    (tl : ∀ T, ∀ t ∈ k.tls, TellK K mg (k.cn K T) t.x t.row) (L : LawTrue k d i n) : LamX.LawAtS l w K (L2.CX l.prog w) d n x mg f h := by
  -- the table
  obtain ⟨cs, T, hl, h2, h3, h4, h1⟩ : ∃ (cs : List (Addr × Addr)) (T : List (Addr × Str)), (∀ x, k.lam = some x → ∃ cc P, cs = [(cc, P)] ∧ T = [(P, lamQ x)] ∧ TabAt K h x cc P) ∧ (∀ p ∈ cs, h.get? p.2 = some { cls := .none, data := .fields #[] }) ∧ (∀ p ∈ cs, K.lookup p.2 = none) ∧
      (∀ p ∈ cs, PySem.W.CodeHd h p.1 p.2) ∧ ∀ q ∈ T, ∃ p ∈ cs, q.1 = p.2 := by
    cases e : k.lam with
    | none =>
      refine ⟨[], [], ?_, ?_, ?_, ?_, ?_⟩
      · intro x hx; cases hx
      all_goals (intro p hp; cases hp)
    | some y =>
      obtain ⟨cc, P, t⟩ := tb y e
      refine ⟨[(cc, P)], [(P, lamQ y)], fun x hx => ?_, fun p hp => ?_, fun p hp => ?_, fun p hp => ?_, fun q hq => ⟨(cc, P), by simp, ?_⟩⟩
      · have hx := Option.some.inj hx
        subst hx
        exact ⟨cc, P, rfl, rfl, t⟩
      · rw [List.mem_singleton.mp hp]; exact t.emp
      · rw [List.mem_singleton.mp hp]; exact t.no
      · rw [List.mem_singleton.mp hp]; exact t.hd
      · rw [List.mem_singleton.mp hq]
  have pk := pk_ok (w := w) ok X G c.says c.tup c.xi c.tv c.td cs T hl (tl T)
  obtain ⟨dd, hd, ex⟩ : ∃ dd, k.ds[i]? = some dd ∧ dd.x = "law" := by
    have hi' : (k.ds.map (·.x))[i]? = some "law" := hi
    rw [List.getElem?_map] at hi'
    cases q : k.ds[i]? with
    | none => rw [q] at hi'; cases hi'
    | some dd => rw [q] at hi'; exact ⟨dd, rfl, Option.some.inj hi'⟩
  obtain ⟨fd, D, bd, hg⟩ := pk_dat ok X G c.says cs T hl i dd hd
  have hn : k.nn.fns[i]? = some dd.x := by simp [Pk.nn, hd]
  rw [ex, hf] at hg
  have ef : f = He.ga K dd.x := by rw [ex]; injection hg with hg; injection hg
  have hx := hps dd hd
  refine ⟨fd, cs, spD (k.cn K T) k.pg d i, h2, h3, h4, fun s u => .of_eq ?_, fun H a ns hl hb hH hS => law_sp h1 L H a ns hl hb hH hS, fun base _ _ TB => ?_⟩
  · have := bd [u] (by rw [hx]; rfl)
    rw [hx] at this
    exact this
  · have := dat_ok (Pr := l.prog) (w := w) (base := base) pk TB d d (Nat.le_refl d) i dd.x hn _ fd dd.ps D
    rw [hx] at this
    rw [ef]
    exact this
theorem cx_false {P : Program} {w : World} {H : Hp} {s : Shared} {e : Value} {s' : Shared} (h : L2.CX P w [] H s (fun _ _ _ => False) e s') : False := by
  obtain ⟨_, _, _, _, _, _, _, _, _, _, _, _, z⟩ := h
  exact z
/-! facts of clauses and tellers -/
section
variable {k : Pk} {K : PySem.W.Frag} {h : Heap} {mg : Str → Option Value}
theorem glo_h (X : K.In h) (G : h.Ns mainGlobals mg) (c : He.SaysE k.fa k.fn K) {x : Str} (hx : x ∈ k.hs) : mg x = some (.ref (He.ga K x)) :=
  He.glo_ok X G (says_fact c (f := .glo x) (by simp only [Pk.fa, List.mem_append]; exact .inr (.inr (.inr (.inr (.inr (.inr (.inr (.inr (.inl (List.mem_map_of_mem hx)))))))))))
theorem exm_h (c : He.SaysE k.fa k.fn K) {x y : Str} {b : Bool} (hx : (x, y, b) ∈ k.exms) : PySem.W.exmOne K (.ref (He.ga K x)) (.ref (He.ga K y)) = some b :=
  He.exm_ok (says_fact c (f := .exm x y b) (by simp only [Pk.fa, List.mem_append]; exact .inr (.inr (.inr (.inr (.inr (.inr (.inr (.inr (.inr (.inl (List.mem_map_of_mem (f := fun q : Str × Str × Bool => He.Fa.exm q.1 q.2.1 q.2.2) hx))))))))))))
theorem tl_fn (c : He.SaysE k.fa k.fn K) {t : TD} (ht : t ∈ k.tls) : ∃ oc od osl kV doc pm an cdv ct, K.lookup (He.ga K t.x) = some ⟨oc, od, .func (PySem.W.fnOf t.x t.x (defArgs t.st) (defBody t.st) (defScope t.st) .none kV doc pm an cdv ct), osl⟩ ∧ PySem.W.codeIn K cdv t.x = true :=
  says_fn c (d := fnD t.x t.st) (by simp only [Pk.fn, List.mem_append]; exact .inr (List.mem_map_of_mem (f := fun d : TD => fnD d.x d.st) ht))
theorem tl_glo (X : K.In h) (G : h.Ns mainGlobals mg) (c : He.SaysE k.fa k.fn K) {t : TD} (ht : t ∈ k.tls) : mg t.x = some (.ref (He.ga K t.x)) :=
  He.glo_ok X G (says_fact c (f := .glo t.x) (by simp only [Pk.fa, List.mem_append]; exact .inr (.inr (.inl (List.mem_map_of_mem (f := fun d : TD => He.Fa.glo d.x) ht)))))
theorem tl_keep (c : He.SaysE k.fa k.fn K) {t : TD} (ht : t ∈ k.tls) : PySem.W.keepIn K (.ref (He.ga K t.x)) = true :=
  He.keep_ok (says_fact c (f := .keep t.x) (by simp only [Pk.fa, List.mem_append]; exact .inr (.inr (.inr (.inl (List.mem_map_of_mem (f := fun d : TD => He.Fa.keep d.x) ht))))))
end
end G
namespace G
open PySem PySem.Spec PyProof.Rows L2
theorem xi_h {Pr : Program} {K : PySem.W.Frag} {xs : List (Str × Option Str)} (cx : xiAll Pr K xs = true) {x f : Str} (hx : (x, some f) ∈ xs) : XiOk Pr K (He.ga K x) f := xiB_ok (List.all_eq_true.mp cx _ hx)
theorem fr_h {k : Pk} {K : PySem.W.Frag} {h : Heap} {mg : Str → Option Value} (X : K.In h) (G : h.Ns mainGlobals mg) (c : He.SaysE k.fa k.fn K) {x : Str} (hx : x ∈ bnames) : mg x = none :=
  He.free_ok X G (says_fact c (f := .free x) (by simp only [Pk.fa, List.mem_append]; exact .inr (.inr (.inr (.inr (.inl (List.mem_map_of_mem hx)))))))
end G

set_option Elab.async false
set_option linter.all false
set_option autoImplicit false
set_option maxRecDepth 100000
set_option maxHeartbeats 4000000
/-! GP: words for the plain laws. -/
namespace G
/-- a def of the program, called -/
theorem call_eq {P : Pg} {d n : Nat} {df : Def} {args : List W} {s : ST} (h : P.defs[n]? = some df) (hl : args.length = df.np) : callD P (d + 1) n args s =
    match evS P (callD P d) df.body (args.map some ++ List.replicate (df.nl - df.np) none) s with
        | .ok .nx _ s' => .ok .non s'
        | .ok (.rt w) _ s' => .ok w s'
        | .exc c l _ s' => .exc c l s'
        | _ => .err := by
  rw [callD]
  simp only [h]
  rw [if_pos hl]
  first
    | done
    | (split <;> simp_all)
end G
namespace G
section
variable {s : ST}
theorem wEq_str (x y : List Nat) : wEq s (.str x) (.str y) = some (x == y) := rfl
theorem wEq_int (x y : Int) : wEq s (.int x) (.int y) = some (x == y) := rfl
theorem wEq_bl (x y : Bool) : wEq s (.bl x) (.bl y) = some (x == y) := rfl
theorem cmp_in1 (c : Nat) (y : List Nat) : cmpop .isin (.str [c]) (.str y) s = some (decide (c ∈ y)) := rfl
theorem cmp_notin1 (c : Nat) (y : List Nat) : cmpop .notin (.str [c]) (.str y) s = some (!decide (c ∈ y)) := rfl
/-- rounds that keep the store -/
theorem comp_map {f : W → M (Option W)} {g : W → Option W} : ∀ {xs : List W}, (∀ x ∈ xs, f x s = .ok (g x) s) → comp f xs s = .ok (xs.filterMap g) s
  | [], _ => rfl
  | x :: xs, h => by
    have h1 := h x List.mem_cons_self
    have h2 := comp_map (fun y hy => h y (List.mem_cons_of_mem x hy))
    simp only [comp, bnd, h1, h2, ret]
    cases e : g x with
    | none => simp [ocons, e]
    | some y => simp [ocons, e]
end
end G
namespace G
section
variable {P : Pg} {call : Nat → List W → M W} {env : Env} {s s' : ST}
def stepG (P : Pg) (call : Nat → List W → M W) (t : T) (ifs e : E) (own : List Nat) (env : Env) : W → M (Option W) := fun w =>
  match asg t w (wipes env own) with
  | some env' => bnd (evB P call ifs env') fun r => if r then bnd (evE P call e env') fun y => ret (some y) else ret none
  | none => fail
theorem evE_lc {t : T} {it ifs e : E} {own : List Nat} : evE P call (.lc t it ifs e own) env s = bnd (evI P call it env) (fun src => bnd (noexc (fits (compS (stepG P call t ifs e own env) P.fuel src))) fun ys => ret (.lst ys)) s := by rw [evE]; rfl
def stepH (P : Pg) (call : Nat → List W → M W) (t : T) (b : S) : W → Env → ST → RS := fun w env s => match asg t w env with
  | some env' => evS P call b env' s
  | none => .err
theorem evS_for {t : T} {it : E} {b : S} : evS P call (.forr t it b) env s = eS (evI P call it env) env (fun src s' => forA (stepH P call t b) P.fuel src env s') s := by rw [evS]; rfl
theorem lc_row {t : T} {it ifs e : E} {own : List Nat} {xs : List W} (hi : evI P call it env s = .ok (.row xs) s') (g : W → Option W)
    (hg : ∀ x ∈ xs, ∃ env', asg t x (wipes env own) = some env' ∧ ((g x = none ∧ evB P call ifs env' s' = .ok false s') ∨ ∃ y, g x = some y ∧ evB P call ifs env' s' = .ok true s' ∧ evE P call e env' s' = .ok y s'))
    (hl : xs.length ≤ line) : evE P call (.lc t it ifs e own) env s = .ok (.lst (xs.filterMap g)) s' := by
  have hc := comp_map (f := stepG P call t ifs e own env) (g := g) (s := s') (xs := xs) (fun x hx => by
    obtain ⟨env', e1, h | ⟨y, h1, h2, h3⟩⟩ := hg x hx
    · simp [stepG, e1, bnd, h.2, ret, h.1]
    · simp [stepG, e1, bnd, h2, h3, ret, h1])
  have hl2 : (xs.filterMap g).length ≤ line := Nat.le_trans (List.length_filterMap_le g xs) hl
  rw [evE_lc]
  simp only [bnd, hi, noexc, fits, compS, hc]
  rw [if_pos hl2]
  rfl
/-- a comprehension whose items change the store -/
theorem comp_inv {f : W → M (Option W)} (Inv : Nat → List W → ST → Prop) : ∀ {xs : List W} {i : Nat} {acc : List W} {s : ST}, Inv i acc s → (∀ j x acc s, xs[j]? = some x → Inv (i + j) acc s → ∃ o s', f x s = .ok o s' ∧ Inv (i + j + 1) (acc ++ o.toList) s') →
    ∃ ys s', comp f xs s = .ok ys s' ∧ Inv (i + xs.length) (acc ++ ys) s'
  | [], i, acc, s, h0, _ => ⟨[], s, rfl, by simpa using h0⟩
  | x :: xs, i, acc, s, h0, hs => by
    obtain ⟨o, s1, e1, h1⟩ := hs 0 x acc s rfl h0
    obtain ⟨ys, s2, e2, h2⟩ := comp_inv (f := f) Inv (xs := xs) (i := i + 1) (acc := acc ++ o.toList) (s := s1) h1 (fun j y acc s hj hi => by
      have := hs (j + 1) y acc s (by simpa using hj) (by rw [show i + (j + 1) = i + 1 + j from by omega]; exact hi)
      rw [show i + (j + 1) + 1 = i + 1 + j + 1 from by omega] at this
      exact this)
    refine ⟨ocons o ys, s2, by simp only [comp, bnd, e1, e2]; rfl, ?_⟩
    rw [List.length_cons, show i + (xs.length + 1) = i + 1 + xs.length from by omega]
    cases o with
    | none => simpa [ocons, Option.toList] using h2
    | some y => simpa [ocons, Option.toList] using h2
theorem lc_inv {t : T} {it ifs e : E} {own : List Nat} {xs : List W} (hi : evI P call it env s = .ok (.row xs) s') (Inv : Nat → List W → ST → Prop) (h0 : Inv 0 [] s')
    (hs : ∀ j x acc s, xs[j]? = some x → Inv j acc s → ∃ env', asg t x (wipes env own) = some env' ∧ ((∃ s1, evB P call ifs env' s = .ok false s1 ∧ Inv (j + 1) acc s1) ∨ ∃ s1 y s2, evB P call ifs env' s = .ok true s1 ∧ evE P call e env' s1 = .ok y s2 ∧ Inv (j + 1) (acc ++ [y]) s2))
    (hl : ∀ ys s, Inv xs.length ys s → ys.length ≤ line) : ∃ ys s2, evE P call (.lc t it ifs e own) env s = .ok (.lst ys) s2 ∧ Inv xs.length ys s2 := by
  obtain ⟨ys, s2, e1, h1⟩ := comp_inv (f := stepG P call t ifs e own env) Inv (xs := xs) (i := 0) (acc := []) h0 (fun j x acc s hj hi => by
    rw [Nat.zero_add] at hi ⊢
    obtain ⟨env', e1, ⟨s1, h1, h2⟩ | ⟨s1, y, s2, h1, h2, h3⟩⟩ := hs j x acc s hj hi
    · exact ⟨none, s1, by simp [stepG, e1, bnd, h1, ret], by simpa using h2⟩
    · exact ⟨some y, s2, by simp [stepG, e1, bnd, h1, h2, ret], h3⟩)
  rw [Nat.zero_add, List.nil_append] at h1
  refine ⟨ys, s2, ?_, h1⟩
  rw [evE_lc]
  simp only [bnd, hi, noexc, fits, compS, e1]
  rw [if_pos (hl _ _ h1)]
  rfl
theorem forS_inv {b : W → Env → ST → RS} (Inv : Nat → Env → ST → Prop) : ∀ {xs : List W} {i : Nat} {env : Env} {s : ST}, Inv i env s → (∀ j x env s, xs[j]? = some x → Inv (i + j) env s → ∃ env' s', b x env s = .ok .nx env' s' ∧ Inv (i + j + 1) env' s') → ∃ env' s', forS b xs env s = .ok .nx env' s' ∧ Inv (i + xs.length) env' s'
  | [], i, env, s, h0, _ => ⟨env, s, rfl, h0⟩
  | x :: xs, i, env, s, h0, hs => by
    obtain ⟨env1, s1, e1, h1⟩ := hs 0 x env s rfl h0
    obtain ⟨env2, s2, e2, h2⟩ := forS_inv (b := b) Inv (xs := xs) (i := i + 1) h1 (fun j y env s hj hi => by
      have := hs (j + 1) y env s (by simpa using hj) (by rw [show i + (j + 1) = i + 1 + j from by omega]; exact hi)
      rw [show i + (j + 1) + 1 = i + 1 + j + 1 from by omega] at this
      exact this)
    refine ⟨env2, s2, by simp only [forS, e1, e2], ?_⟩
    rw [List.length_cons, show i + (xs.length + 1) = i + 1 + xs.length from by omega]
    exact h2
theorem for_inv {t : T} {it : E} {b : S} {xs : List W} (hi : evI P call it env s = .ok (.row xs) s') (Inv : Nat → Env → ST → Prop) (h0 : Inv 0 env s')
    (hs : ∀ j x env s, xs[j]? = some x → Inv j env s → ∃ env1 env' s', asg t x env = some env1 ∧ evS P call b env1 s = .ok .nx env' s' ∧ Inv (j + 1) env' s') : ∃ env' s2, evS P call (.forr t it b) env s = .ok .nx env' s2 ∧ Inv xs.length env' s2 := by
  obtain ⟨env2, s2, e1, h1⟩ := forS_inv (b := stepH P call t b) Inv (xs := xs) (i := 0) h0 (fun j x env s hj hi => by
    rw [Nat.zero_add] at hi ⊢
    obtain ⟨env1, env', s', a1, a2, a3⟩ := hs j x env s hj hi
    exact ⟨env', s', by simp [stepH, a1, a2], a3⟩)
  rw [Nat.zero_add] at h1
  refine ⟨env2, s2, ?_, h1⟩
  rw [evS_for]
  simp only [eS, hi, forA, e1]
end
end G
namespace G
section
variable {P : Pg} {call : Nat → List W → M W} {env : Env} {s : ST}
@[simp] theorem xE_var {i : Nat} : evE P call (.var i) env = (opt (match env[i]? with | some (some w) => some w | _ => none)) := by rw [evE] <;> rfl
@[simp] theorem xE_k {w : W} : evE P call (.k w) env = (ret w) := by rw [evE] <;> rfl
@[simp] theorem xE_glob {n : Nat} : evE P call (.glob n) env = (opt P.consts[n]?) := by rw [evE] <;> rfl
@[simp] theorem xE_fnv {n : Nat} : evE P call (.fnv n) env = (ret (.fn n)) := by rw [evE] <;> rfl
@[simp] theorem xE_bin {op : Bop} {a : E} {b : E} : evE P call (.bin op a b) env = (bnd (evE P call a env) fun x => bnd (evE P call b env) fun y => rd (binop op (soft x) (soft y))) := by rw [evE] <;> rfl
@[simp] theorem xE_neg {a : E} : evE P call (.neg a) env = (bnd (evE P call a env) fun x => match x with | .int i => ret (.int (-i)) | _ => fail) := by rw [evE] <;> rfl
@[simp] theorem xE_cmp {op : Cop} {a : E} {b : E} : evE P call (.cmp op a b) env = (bnd (evE P call a env) fun x => bnd (evE P call b env) fun y => bnd (rd (cmpop op (soft x) (soft y))) fun r => ret (.bl r)) := by rw [evE] <;> rfl
@[simp] theorem xE_chain {op : Cop} {op' : Cop} {a : E} {b : E} {c : E} : evE P call (.chain op op' a b c) env = (bnd (evE P call a env) fun x => bnd (evE P call b env) fun y => bnd (rd (cmpop op (soft x) (soft y))) fun r =>
      if r then bnd (evE P call c env) fun z => bnd (rd (cmpop op' (soft y) (soft z))) fun r' => ret (.bl r') else ret (.bl false)) := by rw [evE] <;> rfl
@[simp] theorem xE_and {a : E} {b : E} : evE P call (.and a b) env = (bnd (evE P call a env) fun x => match x with | .bl true => evE P call b env | .bl false => ret (.bl false) | _ => fail) := by rw [evE] <;> rfl
@[simp] theorem xE_or {a : E} {b : E} : evE P call (.or a b) env = (bnd (evE P call a env) fun x => match x with | .bl true => ret (.bl true) | .bl false => evE P call b env | _ => fail) := by rw [evE] <;> rfl
@[simp] theorem xE_not {a : E} : evE P call (.not a) env = (bnd (evE P call a env) fun x => match x with | .bl r => ret (.bl (!r)) | _ => fail) := by rw [evE] <;> rfl
@[simp] theorem xE_ife {c : E} {a : E} {b : E} : evE P call (.ife c a b) env = (bnd (evE P call c env) fun x => match x with | .bl true => evE P call a env | .bl false => evE P call b env | _ => fail) := by rw [evE] <;> rfl
@[simp] theorem xE_tup {l : E} : evE P call (.tup l) env = (bnd (fits (evA P call l env)) fun xs => ret (.tup xs)) := by rw [evE] <;> rfl
@[simp] theorem xE_lst {l : E} : evE P call (.lst l) env = (bnd (fits (evA P call l env)) fun xs => ret (.lst xs)) := by rw [evE] <;> rfl
@[simp] theorem xE_mlst {l : E} : evE P call (.mlst l) env = (bnd (fits (evA P call l env)) fun xs => fun s => .ok (.ref s.length) (s ++ [xs])) := by rw [evE] <;> rfl
@[simp] theorem xE_ix {a : E} {b : E} : evE P call (.ix a b) env = (bnd (evE P call a env) fun x => bnd (evE P call b env) fun y => rd (item (soft x) y)) := by rw [evE] <;> rfl
@[simp] theorem xE_sl {a : E} {lo : E} {hi : E} : evE P call (.sl a lo hi) env = (bnd (evE P call a env) fun x => bnd (evO P call lo env) fun l => bnd (evO P call hi env) fun h => rd (slice (soft x) l h)) := by rw [evE] <;> rfl
@[simp] theorem xE_slx {a : E} {lo : E} {hi : E} {st : Int} : evE P call (.slx a lo hi st) env = (bnd (evE P call a env) fun x => bnd (evO P call lo env) fun l => bnd (evO P call hi env) fun h => bnd (rd fun s => seqL s x) fun xs => if st = 0 then fail else ret (.lst (cutX xs l h st))) := by rw [evE] <;> rfl
@[simp] theorem xE_htup {l : E} : evE P call (.htup l) env = (bnd (fits (evA P call l env)) fun xs => ret (.htup xs)) := by rw [evE] <;> rfl
@[simp] theorem xE_lens {a : E} : evE P call (.lens a) env = (bnd (evE P call a env) fun x => rd (biop .lenset [x])) := by rw [evE] <;> rfl
@[simp] theorem x_bi_htuple {l : E} : evE P call (.bi .htuple l) env = (bnd (evA P call l env) fun xs => rd (biop .htuple xs)) := by rw [evE] <;> first | rfl | (intro h; cases h)
@[simp] theorem xE_no  : evE P call (.no) env = (ret .non) := by rw [evE] <;> rfl
@[simp] theorem xE_rev {a : E} : evE P call (.rev a) env = (bnd (evE P call a env) fun x => bnd (rd fun s => seqL s x) fun xs => ret (.lst xs.reverse)) := by rw [evE] <;> rfl
@[simp] theorem xE_call {n : Nat} {l : E} : evE P call (.call n l) env = (bnd (evA P call l env) fun xs => call n xs) := by rw [evE] <;> rfl
@[simp] theorem xE_bi_mlist {l : E} : evE P call (.bi .mlist l) env = (bnd (evA P call l env) fun xs => bnd (rd (biop .list xs)) fun w => match w with
      | .lst ys => fun s => .ok (.ref s.length) (s ++ [ys])
      | _ => fail) := by rw [evE] <;> rfl
@[simp] theorem x_bi_len {l : E} : evE P call (.bi .len l) env = (bnd (evA P call l env) fun xs => rd (biop .len xs)) := by rw [evE] <;> first | rfl | (intro h; cases h)
@[simp] theorem x_bi_abs {l : E} : evE P call (.bi .abs l) env = (bnd (evA P call l env) fun xs => rd (biop .abs xs)) := by rw [evE] <;> first | rfl | (intro h; cases h)
@[simp] theorem x_bi_int {l : E} : evE P call (.bi .int l) env = (bnd (evA P call l env) fun xs => rd (biop .int xs)) := by rw [evE] <;> first | rfl | (intro h; cases h)
@[simp] theorem x_bi_str {l : E} : evE P call (.bi .str l) env = (bnd (evA P call l env) fun xs => rd (biop .str xs)) := by rw [evE] <;> first | rfl | (intro h; cases h)
@[simp] theorem x_bi_list {l : E} : evE P call (.bi .list l) env = (bnd (evA P call l env) fun xs => rd (biop .list xs)) := by rw [evE] <;> first | rfl | (intro h; cases h)
@[simp] theorem x_bi_tuple {l : E} : evE P call (.bi .tuple l) env = (bnd (evA P call l env) fun xs => rd (biop .tuple xs)) := by rw [evE] <;> first | rfl | (intro h; cases h)
@[simp] theorem x_bi_dict {l : E} : evE P call (.bi .dict l) env = (bnd (evA P call l env) fun xs => rd (biop .dict xs)) := by rw [evE] <;> first | rfl | (intro h; cases h)
@[simp] theorem x_bi_max {l : E} : evE P call (.bi .max l) env = (bnd (evA P call l env) fun xs => rd (biop .max xs)) := by rw [evE] <;> first | rfl | (intro h; cases h)
@[simp] theorem x_bi_min {l : E} : evE P call (.bi .min l) env = (bnd (evA P call l env) fun xs => rd (biop .min xs)) := by rw [evE] <;> first | rfl | (intro h; cases h)
@[simp] theorem x_bi_sum {l : E} : evE P call (.bi .sum l) env = (bnd (evA P call l env) fun xs => rd (biop .sum xs)) := by rw [evE] <;> first | rfl | (intro h; cases h)
@[simp] theorem x_bi_all {l : E} : evE P call (.bi .all l) env = (bnd (evA P call l env) fun xs => rd (biop .all xs)) := by rw [evE] <;> first | rfl | (intro h; cases h)
@[simp] theorem x_bi_any {l : E} : evE P call (.bi .any l) env = (bnd (evA P call l env) fun xs => rd (biop .any xs)) := by rw [evE] <;> first | rfl | (intro h; cases h)
@[simp] theorem x_bi_sorted {l : E} : evE P call (.bi .sorted l) env = (bnd (evA P call l env) fun xs => rd (biop .sorted xs)) := by rw [evE] <;> first | rfl | (intro h; cases h)
@[simp] theorem x_bi_isi {l : E} : evE P call (.bi .isi l) env = (bnd (evA P call l env) fun xs => rd (biop .isi xs)) := by rw [evE] <;> first | rfl | (intro h; cases h)
@[simp] theorem x_bi_lenset {l : E} : evE P call (.bi .lenset l) env = (bnd (evA P call l env) fun xs => rd (biop .lenset xs)) := by rw [evE] <;> first | rfl | (intro h; cases h)
@[simp] theorem xE_meth {m : Me} {o : E} {l : E} : evE P call (.meth m o l) env = (bnd (evE P call o env) fun x => match m.isL, x with
      | true, .ref n => bnd (evA P call l env) fun xs => meL m n xs
      | false, .str a => bnd (evA P call l env) fun xs => meS m a xs
      | _, _ => fail) := by rw [evE] <;> rfl
@[simp] theorem xE_lzip {a : E} {b : E} : evE P call (.lzip a b) env = (bnd (evE P call a env) fun x => bnd (evE P call b env) fun y => match soft x, soft y with
      | .tup xs, .tup ys => ret (.lst (zipW xs ys))
      | _, _ => fail) := by rw [evE] <;> rfl
@[simp] theorem xE_lrng {l : E} : evE P call (.lrng l) env = (bnd (evA P call l env) fun xs => bnd (opt (rngOf xs)) fun ys => ret (.lst ys)) := by rw [evE] <;> rfl
@[simp] theorem xE_dix {n : Nat} {a : E} : evE P call (.dix n a) env = (bnd (evE P call a env) fun y => match y, P.tabs[n]? with
      | .str k, some ps => opt (lookP k ps)
      | _, _ => fail) := by rw [evE] <;> rfl
@[simp] theorem xE_din {neg : Bool} {n : Nat} {a : E} : evE P call (.din neg n a) env = (bnd (evE P call a env) fun y => match y, P.tabs[n]? with
      | .str k, some ps => ret (.bl (cond neg (!(lookP k ps).isSome) (lookP k ps).isSome))
      | _, _ => fail) := by rw [evE] <;> rfl
@[simp] theorem xE_clo {n : Nat} {l : E} : evE P call (.clo n l) env = (tellM P n (bnd (call P.defs.length []) fun _ => evE P (fun m xs => call (m + (P.defs.length + 1)) xs) l env)) := by rw [evE] <;> rfl
@[simp] theorem xA_nil  : evA P call (.nil) env = (ret []) := by rw [evA] <;> rfl
@[simp] theorem xA_cons {a : E} {b : E} : evA P call (.cons a b) env = (bnd (evE P call a env) fun x => bnd (evA P call b env) fun xs => ret (x :: xs)) := by rw [evA] <;> rfl
@[simp] theorem xO_no  : evO P call (.no) env = (ret none) := by rw [evO] <;> rfl
@[simp] theorem xO_itr {a : E} : evO P call (.itr a) env = (bnd (evE P call a env) fun x => match x with | .int i => ret (some i) | _ => fail) := by rw [evO] <;> rfl
@[simp] theorem xB_nil  : evB P call (.nil) env = (ret true) := by rw [evB] <;> rfl
@[simp] theorem xB_cons {a : E} {b : E} : evB P call (.cons a b) env = (bnd (evE P call a env) fun x => match x with | .bl true => evB P call b env | .bl false => ret false | _ => fail) := by rw [evB] <;> rfl
@[simp] theorem xI_rng {l : E} : evI P call (.rng l) env = (bnd (evA P call l env) fun xs => bnd (opt (rngOf xs)) fun ys => ret (.row ys)) := by rw [evI] <;> rfl
@[simp] theorem xI_enum {a : E} : evI P call (.enum a) env = (bnd (evE P call a env) fun x => opt (srcEnum x)) := by rw [evI] <;> rfl
@[simp] theorem xI_zip {a : E} {b : E} : evI P call (.zip a b) env = (bnd (evE P call a env) fun x => bnd (evE P call b env) fun y => rd fun s => srcZip s (soft x) (soft y)) := by rw [evI] <;> rfl
@[simp] theorem xI_itr {a : E} : evI P call (.itr a) env = (bnd (evE P call a env) fun x => opt (srcOf (soft x))) := by rw [evI] <;> rfl
end
end G
namespace G
section
variable {P : Pg} {call : Nat → List W → M W} {env : Env} {s : ST}
@[simp] theorem xS_nil  : evS P call (.nil) env s = (.ok .nx env s) := by rw [evS] <;> rfl
@[simp] theorem xS_seq {a : S} {b : S} : evS P call (.seq a b) env s = (match evS P call a env s with
    | .ok .nx env' s' => evS P call b env' s'
    | r => r) := by rw [evS] <;> rfl
@[simp] theorem xS_asg {t : T} {e : E} : evS P call (.asg t e) env s = (eS (evE P call e env) env (fun w s' => match asg t w env with
    | some env' => .ok .nx env' s'
    | none => .err) s) := by rw [evS] <;> rfl
@[simp] theorem xS_par2 {i : Nat} {j : Nat} {a : E} {b : E} : evS P call (.par2 i j a b) env s = (eS (evE P call a env) env (fun x s' => eS (evE P call b env) env (fun y s'' =>
      if i < env.length ∧ j < env.length ∧ i ≠ j then .ok .nx ((env.set i (some x)).set j (some y)) s'' else .err) s') s) := by rw [evS] <;> rfl
@[simp] theorem xS_par3 {i : Nat} {j : Nat} {l : Nat} {a : E} {b : E} {c : E} : evS P call (.par3 i j l a b c) env s = (eS (evE P call a env) env (fun x s' => eS (evE P call b env) env (fun y s'' => eS (evE P call c env) env (fun z s3 =>
      if i < env.length ∧ j < env.length ∧ l < env.length ∧ i ≠ j ∧ i ≠ l ∧ j ≠ l then .ok .nx (((env.set i (some x)).set j (some y)).set l (some z)) s3 else .err) s'') s') s) := by rw [evS] <;> rfl
@[simp] theorem xS_seti {o : E} {i : E} {e : E} : evS P call (.seti o i e) env s = (eS (evE P call e env) env (fun w s1 => eS (evE P call o env) env (fun x s2 => eS (evE P call i env) env (fun y s3 =>
      match x, y with
      | .ref n, .int k => match s3[n]? with
        | some ys => match ixOf k ys.length with
          | some j => .ok .nx env (s3.set n (ys.set j w))
          | none => .err
        | none => .err
      | _, _ => .err) s2) s1) s) := by rw [evS] <;> rfl
@[simp] theorem xS_expr {e : E} : evS P call (.expr e) env s = (eS (evE P call e env) env (fun _ s' => .ok .nx env s') s) := by rw [evS] <;> rfl
@[simp] theorem xS_rt {e : E} : evS P call (.rt e) env s = (eS (evE P call e env) env (fun w s' => .ok (.rt w) env s') s) := by rw [evS] <;> rfl
@[simp] theorem xS_rtn  : evS P call (.rtn) env s = (.ok (.rt .non) env s) := by rw [evS] <;> rfl
@[simp] theorem xS_ife {c : E} {a : S} {b : S} : evS P call (.ife c a b) env s = (eS (evE P call c env) env (fun x s' => match x with
    | .bl true => evS P call a env s'
    | .bl false => evS P call b env s'
    | _ => .err) s) := by rw [evS] <;> rfl
@[simp] theorem xS_brk  : evS P call (.brk) env s = (.ok .bk env s) := by rw [evS] <;> rfl
@[simp] theorem xS_cnt  : evS P call (.cnt) env s = (.ok .ct env s) := by rw [evS] <;> rfl
@[simp] theorem xS_pass  : evS P call (.pass) env s = (.ok .nx env s) := by rw [evS] <;> rfl
@[simp] theorem xS_raise {c : Nat} {l : E} : evS P call (.raise c l) env s = (eS (evA P call l env) env (fun xs s' => .exc c xs env s') s) := by rw [evS] <;> rfl
end
end G
namespace G
section
variable {P : Pg} {call : Nat → List W → M W} {env : Env} {s s' : ST} {α : Type}
theorem filterMap_if {l : List α} {f : α → W} {p : α → Bool} {h : α → W} (g : W → Option W) (hg : ∀ c ∈ l, g (f c) = if p c then some (h c) else none) : (l.map f).filterMap g = (l.filter p).map h := by
  induction l with
  | nil => rfl
  | cons c l ih =>
    have ih := ih fun c hc => hg c (List.mem_cons_of_mem _ hc)
    have h1 := hg c List.mem_cons_self
    cases hp : p c with
    | true => rw [hp] at h1; simp [h1, hp, ih]
    | false => rw [hp] at h1; simp [h1, hp, ih]
open Classical in
theorem lc_filtL {t : T} {it ifs e : E} {own : List Nat} {l : List α} {f h : α → W} {p : α → Bool} (hi : evI P call it env s = .ok (.row (l.map f)) s') (hinj : ∀ a b, f a = f b → a = b)
    (hg : ∀ c ∈ l, ∃ env', asg t (f c) (wipes env own) = some env' ∧ evB P call ifs env' s' = .ok (p c) s' ∧ (p c = true → evE P call e env' s' = .ok (h c) s')) (hl : l.length ≤ line) : evE P call (.lc t it ifs e own) env s = .ok (.lst ((l.filter p).map h)) s' := by
  have hgs : ∀ c ∈ l, (fun w => if hx : ∃ c, f c = w then (if p hx.choose then some (h hx.choose) else none) else none : W → Option W) (f c) = if p c then some (h c) else none := fun c _ => by
    have hx : ∃ c', f c' = f c := ⟨c, rfl⟩
    have : hx.choose = c := hinj _ _ hx.choose_spec
    simp only [hx, dif_pos, this]
  have key := lc_row (t := t) (ifs := ifs) (e := e) (own := own) hi (fun w => if hx : ∃ c, f c = w then (if p hx.choose then some (h hx.choose) else none) else none) (fun x hx => by
    obtain ⟨c, hc, rfl⟩ := List.mem_map.mp hx
    obtain ⟨env', a1, a2, a3⟩ := hg c hc
    refine ⟨env', a1, ?_⟩
    have e := hgs c hc
    cases hp : p c with
    | true => rw [hp] at e a2; exact .inr ⟨h c, by simpa using e, a2, a3 hp⟩
    | false => rw [hp] at e a2; exact .inl ⟨by simpa using e, a2⟩) (by rw [List.length_map]; exact hl)
  rw [key]
  rw [filterMap_if _ hgs]
theorem lc_mapL {t : T} {it e : E} {own : List Nat} {l : List α} {f h : α → W} (hi : evI P call it env s = .ok (.row (l.map f)) s') (hinj : ∀ a b, f a = f b → a = b)
    (hg : ∀ c ∈ l, ∃ env', asg t (f c) (wipes env own) = some env' ∧ evE P call e env' s' = .ok (h c) s') (hl : l.length ≤ line) : evE P call (.lc t it .nil e own) env s = .ok (.lst (l.map h)) s' := by
  have := lc_filtL (t := t) (ifs := .nil) (e := e) (own := own) (h := h) (p := fun _ => true) hi hinj (fun c hc => by
    obtain ⟨env', a1, a2⟩ := hg c hc
    exact ⟨env', a1, by simp [ret], fun _ => a2⟩) hl
  rw [this, List.filter_eq_self.mpr (fun _ _ => rfl)]
theorem boolsW_map {l : List α} {q : α → Bool} : boolsW (l.map fun c => .bl (q c)) = some (l.map q) := by
  induction l with
  | nil => rfl
  | cons c l ih => simp [boolsW, ih]
theorem str1_inj : ∀ a b : Nat, (W.str [a]) = (W.str [b]) → a = b := fun a b h => by
  injection h with h; injection h
end
end G

set_option Elab.async false
set_option linter.all false
set_option autoImplicit false
set_option maxRecDepth 100000
set_option maxHeartbeats 4000000
/-! GQ: loops; draws of a law, by the numbers of its defs. -/
namespace G
theorem whl_rule {c : Env → M W} {b : Env → ST → RS} {Q : RS → Prop} (Inv : Nat → Env → ST → Prop) (h0 : ∀ env s, Inv 0 env s → False)
    (hs : ∀ k env s, Inv (k + 1) env s → (c env s = .ok (.bl false) s ∧ Q (.ok .nx env s)) ∨ (c env s = .ok (.bl true) s ∧ ((∃ env' s', b env s = .ok .nx env' s' ∧ Inv k env' s') ∨ (∃ env' s', b env s = .ok .bk env' s' ∧ Q (.ok .nx env' s')) ∨ ∃ w env' s', b env s = .ok (.rt w) env' s' ∧ Q (.ok (.rt w) env' s')))) :
    ∀ {n k : Nat} {env : Env} {s : ST}, k ≤ n → Inv k env s → Q (whileS c b n env s)
  | n, 0, env, s, _, i => (h0 env s i).elim
  | 0, k + 1, _, _, h, _ => by omega
  | n + 1, k + 1, env, s, h, i => by
    unfold whileS
    rcases hs k env s i with ⟨e, q⟩ | ⟨e, ⟨env', s', e2, i'⟩ | ⟨env', s', e2, q⟩ | ⟨w, env', s', e2, q⟩⟩
    · simp only [eS, e]; exact q
    · simp only [eS, e, e2]
      exact whl_rule Inv h0 hs (by omega) i'
    · simp only [eS, e, e2]; exact q
    · simp only [eS, e, e2]; exact q
theorem evS_whl {P : Pg} {call : Nat → List W → M W} {c : E} {b : S} {env : Env} {s : ST} : evS P call (.whl c b) env s = whileS (fun env => evE P call c env) (fun env s => evS P call b env s) P.fuel env s := by rw [evS]
@[simp] theorem soft_non : soft .non = .non := rfl
@[simp] theorem soft_bl {b : Bool} : soft (.bl b) = .bl b := rfl
@[simp] theorem soft_int {i : Int} : soft (.int i) = .int i := rfl
@[simp] theorem soft_str {l : List Nat} : soft (.str l) = .str l := rfl
@[simp] theorem soft_tup {l : List W} : soft (.tup l) = .tup l := rfl
@[simp] theorem soft_htup {l : List W} : soft (.htup l) = .tup l := rfl
@[simp] theorem soft_lst {l : List W} : soft (.lst l) = .lst l := rfl
@[simp] theorem soft_dct {k : List (List Nat)} {l : List W} : soft (.dct k l) = .dct k l := rfl
@[simp] theorem soft_ref {n : Nat} : soft (.ref n) = .ref n := rfl
@[simp] theorem soft_scr {n : List Int} : soft (.scr n) = .scr n := rfl
@[simp] theorem soft_ty {n : String} : soft (.ty n) = .ty n := rfl
@[simp] theorem soft_fn {n : Nat} : soft (.fn n) = .fn n := rfl
/-! texts in rows -/
theorem memOk_str {y : List Nat} {L : List (List Nat)} : memOk (.str y) (L.map W.str) = true := by
  show (L.map W.str).all (fun z => eqOk 63 z (.str y)) = true
  rw [List.all_map, List.all_eq_true]
  intro x _
  simp [bnd, G.ret, rd, opt, eS, item, seqI, seqL, ixOf, cmpop, biop, bInt, bLen, bList, bAbs, binop, big, asg, fits, line, wEq_str, wEq_int, wEq_bl, eqOk, isSc]
theorem erase_perm {α : Type} : ∀ {l : List α} {i : Nat} {x : α}, l[i]? = some x → (x :: l.eraseIdx i).Perm l
  | [], i, x, h => by simp [bnd, G.ret, rd, opt, eS, item, seqI, seqL, ixOf, cmpop, biop, bInt, bLen, bList, bAbs, binop, big, asg, fits, line, wEq_str, wEq_int, wEq_bl] at h
  | a :: l, 0, x, h => by simp [bnd, G.ret, rd, opt, eS, item, seqI, seqL, ixOf, cmpop, biop, bInt, bLen, bList, bAbs, binop, big, asg, fits, line, wEq_str, wEq_int, wEq_bl] at h; subst h; exact List.Perm.refl _
  | a :: l, i + 1, x, h => by
    have := erase_perm (l := l) (i := i) (x := x) (by simpa [bnd, G.ret, rd, opt, eS, item, seqI, seqL, ixOf, cmpop, biop, bInt, bLen, bList, bAbs, binop, big, asg, fits, line, wEq_str, wEq_int, wEq_bl] using h)
    exact (List.Perm.swap a x _).trans (this.cons a)
theorem any_str {y : List Nat} {L : List (List Nat)} : ((L.map W.str).any fun x => weq x (.str y)) = decide (y ∈ L) := by
  induction L with
  | nil => simp [bnd, G.ret, rd, opt, eS, item, seqI, seqL, ixOf, cmpop, biop, bInt, bLen, bList, bAbs, binop, big, asg, fits, line, wEq_str, wEq_int, wEq_bl]
  | cons a L ih =>
    rw [List.map_cons, List.any_cons, ih]
    by_cases h : a = y
    · subst h; simp [bnd, G.ret, rd, opt, eS, item, seqI, seqL, ixOf, cmpop, biop, bInt, bLen, bList, bAbs, binop, big, asg, fits, line, wEq_str, wEq_int, wEq_bl, weq]
    · have h1 : (a == y) = false := by simpa [bnd, G.ret, rd, opt, eS, item, seqI, seqL, ixOf, cmpop, biop, bInt, bLen, bList, bAbs, binop, big, asg, fits, line, wEq_str, wEq_int, wEq_bl] using h
      have h2 : ¬ y = a := fun e => h e.symm
      simp [bnd, G.ret, rd, opt, eS, item, seqI, seqL, ixOf, cmpop, biop, bInt, bLen, bList, bAbs, binop, big, asg, fits, line, wEq_str, wEq_int, wEq_bl, weq, h1, h2]
theorem in_lst {y : List Nat} {L : List (List Nat)} {s : ST} : cmpop .isin (.str y) (.lst (L.map W.str)) s = some (decide (y ∈ L)) := by
  rcases y with _ | ⟨c, _ | ⟨d, r⟩⟩ <;> simp only [cmpop, seqI, memOk_str, if_true, any_str]
theorem notin_lst {y : List Nat} {L : List (List Nat)} {s : ST} : cmpop .notin (.str y) (.lst (L.map W.str)) s = some (!decide (y ∈ L)) := by
  rcases y with _ | ⟨c, _ | ⟨d, r⟩⟩ <;> simp only [cmpop, seqI, memOk_str, if_true, any_str]
theorem in_tup {y : List Nat} {L : List (List Nat)} {s : ST} : cmpop .isin (.str y) (.tup (L.map W.str)) s = some (decide (y ∈ L)) := by
  rcases y with _ | ⟨c, _ | ⟨d, r⟩⟩ <;> simp only [cmpop, seqI, memOk_str, if_true, any_str]
theorem notin_tup {y : List Nat} {L : List (List Nat)} {s : ST} : cmpop .notin (.str y) (.tup (L.map W.str)) s = some (!decide (y ∈ L)) := by
  rcases y with _ | ⟨c, _ | ⟨d, r⟩⟩ <;> simp only [cmpop, seqI, memOk_str, if_true, any_str]
theorem wstr_inj : ∀ a b : List Nat, W.str a = W.str b → a = b := fun _ _ h => by injection h
theorem strsW_map : ∀ {L : List (List Nat)}, strsW (L.map W.str) = some L
  | [] => rfl
  | a :: L => by simp [bnd, G.ret, rd, opt, eS, item, seqI, seqL, ixOf, cmpop, biop, bInt, bLen, bList, bAbs, binop, big, asg, fits, line, wEq_str, wEq_int, wEq_bl, strsW, strsW_map (L := L)]
/-! a dict of pairs -/
theorem putS_new {k : List Nat} {v : W} {l : List (List Nat × W)} (h : k ∉ l.map (·.1)) : putS k v l = l ++ [(k, v)] := by
  unfold putS
  rw [if_neg]
  intro q
  obtain ⟨p, hp, e⟩ := List.any_eq_true.mp q
  exact h (List.mem_map.mpr ⟨p, hp, by simpa [bnd, G.ret, rd, opt, eS, item, seqI, seqL, ixOf, cmpop, biop, bInt, bLen, bList, bAbs, binop, big, asg, fits, line, wEq_str, wEq_int, wEq_bl] using e⟩)
theorem dictOf_nd : ∀ {ps acc : List (List Nat × W)}, ((acc ++ ps).map (·.1)).Nodup → ps.foldl (fun d p => putS p.1 p.2 d) acc = acc ++ ps
  | [], acc, _ => by simp [bnd, G.ret, rd, opt, eS, item, seqI, seqL, ixOf, cmpop, biop, bInt, bLen, bList, bAbs, binop, big, asg, fits, line, wEq_str, wEq_int, wEq_bl]
  | p :: ps, acc, h => by
    have hp : p.1 ∉ acc.map (·.1) := fun q => by
      rw [List.map_append, List.nodup_append] at h
      exact h.2.2 p.1 q p.1 (by simp [bnd, G.ret, rd, opt, eS, item, seqI, seqL, ixOf, cmpop, biop, bInt, bLen, bList, bAbs, binop, big, asg, fits, line, wEq_str, wEq_int, wEq_bl]) rfl
    rw [List.foldl_cons, putS_new hp]
    have h2 : ((acc ++ [(p.1, p.2)] ++ ps).map (·.1)).Nodup := by simpa [bnd, G.ret, rd, opt, eS, item, seqI, seqL, ixOf, cmpop, biop, bInt, bLen, bList, bAbs, binop, big, asg, fits, line, wEq_str, wEq_int, wEq_bl] using h
    rw [dictOf_nd h2]
    simp [bnd, G.ret, rd, opt, eS, item, seqI, seqL, ixOf, cmpop, biop, bInt, bLen, bList, bAbs, binop, big, asg, fits, line, wEq_str, wEq_int, wEq_bl]
/-! ### draws -/
def cupB : S := (.seq (.asg (.v 1) (.bi .abs (.cons (.ix (.bin .add (.bi .list (.cons (.var 0) .nil)) (.lst (.cons (.k (.int 0)) .nil))) (.k (.int 0))) .nil))) (.seq (.rt (.mlst (.cons (.ife (.cmp .ge (.var 1) (.bin .pow (.k (.int 10)) (.k (.int 18)))) (.bin .fdiv (.var 1) (.k (.int 11))) (.k (.int 0))) (.cons (.bin .add (.bin .mod (.bi .int (.cons (.bin .add (.bin .mul (.var 1) (.k (.int 193))) (.k (.int 1201))) .nil)) (.k (.int 2077504273))) (.k (.int 89))) .nil)))) .nil))
def rollB : S := (.seq (.ife (.cmp .gt (.ix (.var 0) (.k (.int 0))) (.k (.int 0))) (.seq (.asg (.v 2) (.bin .mod (.bi .int (.cons (.ix (.var 0) (.k (.int 0))) .nil)) (.var 1))) (.seq (.seti (.var 0) (.k (.int 0)) (.bin .fdiv (.ix (.var 0) (.k (.int 0))) (.var 1))) (.seq (.rt (.var 2)) .nil))) .nil) (.seq (.seti (.var 0) (.k (.int 1)) (.bin .mod (.bi .int (.cons (.bin .add (.bin .mul (.ix (.var 0) (.k (.int 1))) (.k (.int 30671))) (.k (.int 7919))) .nil)) (.k (.int 2147483549)))) (.seq (.asg (.v 3) (.bin .mod (.bi .int (.cons (.bin .mul (.ix (.var 0) (.k (.int 1))) (.bin .add (.ix (.var 0) (.k (.int 1))) (.k (.int 131)))) .nil)) (.k (.int 2147483587)))) (.seq (.rt (.bin .mod (.bi .int (.cons (.bin .fdiv (.var 3) (.k (.int 709))) .nil)) (.var 1))) .nil))))
def someB (r : Nat) : S := (.seq (.rt (.ix (.var 1) (.call r (.cons (.var 0) (.cons (.bi .len (.cons (.var 1) .nil)) .nil))))) .nil)
def shufB (r : Nat) : S := (.seq (.par2 2 3 (.bi .mlist (.cons (.var 1) .nil)) (.mlst .nil)) (.seq (.whl (.cmp .ne (.var 2) (.lst .nil)) (.seq (.expr (.meth .append (.var 3) (.cons (.meth .pop (.var 2) (.cons (.call r (.cons (.var 0) (.cons (.bi .len (.cons (.var 2) .nil)) .nil))) .nil)) .nil))) .nil)) (.seq (.rt (.var 3)) .nil)))
abbrev cup (a b : Int) (t : ST) : ST := [.int a, .int b] :: t
section
variable {P : Pg}
theorem cup_law {n : Nat} (h : P.defs[n]? = some ⟨1, 2, cupB⟩) (d : Nat) (ns : List Int) (hn : ns.length ≤ 63) : ∃ a b, callD P (d + 1) n [.scr ns] [] = .ok (.ref 0) (cup a b []) := by
  rw [call_eq h rfl]
  obtain ⟨n, r, e, hr⟩ : ∃ (n : Int) (r : List W), ns.map W.int ++ [.int 0] = .int n :: r ∧ r.length ≤ 63 := by
    cases ns with
    | nil => exact ⟨0, [], rfl, by simp [bnd, G.ret, rd, opt, eS, item, seqI, seqL, ixOf, cmpop, biop, bInt, bLen, bList, bAbs, binop, big, asg, fits, line, wEq_str, wEq_int, wEq_bl]⟩
    | cons n ns => exact ⟨n, _, rfl, by simpa [bnd, G.ret, rd, opt, eS, item, seqI, seqL, ixOf, cmpop, biop, bInt, bLen, bList, bAbs, binop, big, asg, fits, line, wEq_str, wEq_int, wEq_bl] using hn⟩
  have hl : ns.length + 1 ≤ 16777216 := by omega
  obtain ⟨c, hc⟩ : ∃ c : Int, c = if n < 0 then -n else n := ⟨_, rfl⟩
  by_cases h18 : 1000000000000000000 ≤ c
  · refine ⟨c / 11, (c * 193 + 1201) % 2077504273 + 89, ?_⟩
    simp [bnd, G.ret, rd, opt, eS, item, seqI, seqL, ixOf, cmpop, biop, bInt, bLen, bList, bAbs, binop, big, asg, fits, line, wEq_str, wEq_int, wEq_bl, cupB, e, hl, ← hc, h18]
  · refine ⟨0, (c * 193 + 1201) % 2077504273 + 89, ?_⟩
    simp [bnd, G.ret, rd, opt, eS, item, seqI, seqL, ixOf, cmpop, biop, bInt, bLen, bList, bAbs, binop, big, asg, fits, line, wEq_str, wEq_int, wEq_bl, cupB, e, hl, ← hc, h18]
theorem roll_law {n : Nat} (h : P.defs[n]? = some ⟨2, 4, rollB⟩) (d : Nat) (m a b : Int) (t : ST) (hm : 0 < m) (hmb : m < 18446744073709551616) :
    ∃ r a' b', 0 ≤ r ∧ r < m ∧ callD P (d + 1) n [.ref 0, .int m] (cup a b t) = .ok (.int r) (cup a' b' t) := by
  by_cases ha : 0 < a
  · refine ⟨a % m, a / m, b, Int.emod_nonneg _ (by omega), Int.emod_lt_of_pos _ hm, ?_⟩
    rw [call_eq h rfl]
    simp [bnd, G.ret, rd, opt, eS, item, seqI, seqL, ixOf, cmpop, biop, bInt, bLen, bList, bAbs, binop, big, asg, fits, line, wEq_str, wEq_int, wEq_bl, rollB, ha, hm, hmb]
  · obtain ⟨b1, hb1⟩ : ∃ b1, b1 = (b * 30671 + 7919) % 2147483549 := ⟨_, rfl⟩
    have hb2 : 0 ≤ b1 ∧ b1 < 2147483549 := by rw [hb1]; omega
    have c1 : -18446744073709551616 < b1 ∧ b1 < 18446744073709551616 := by omega
    refine ⟨(b1 * (b1 + 131)) % 2147483587 / 709 % m, a, b1, Int.emod_nonneg _ (by omega), Int.emod_lt_of_pos _ hm, ?_⟩
    rw [call_eq h rfl]
    simp [bnd, G.ret, rd, opt, eS, item, seqI, seqL, ixOf, cmpop, biop, bInt, bLen, bList, bAbs, binop, big, asg, fits, line, wEq_str, wEq_int, wEq_bl, rollB, ha, hm, hmb, ← hb1, c1]
theorem some_law {n r : Nat} (hr : P.defs[r]? = some ⟨2, 4, rollB⟩) (h : P.defs[n]? = some ⟨2, 2, someB r⟩) (d : Nat) (xs : List W) (a b : Int) (t : ST) (h0 : 0 < xs.length) (hl : xs.length < 1000) :
    ∃ (i : Nat) (x : W) (a' b' : Int), xs[i]? = some x ∧ callD P (d + 2) n [.ref 0, .lst xs] (cup a b t) = .ok x (cup a' b' t) := by
  obtain ⟨k, a', b', h1, h2, e⟩ := roll_law hr d xs.length a b t (by omega) (by omega)
  have hk : k.toNat < xs.length := by omega
  refine ⟨k.toNat, xs[k.toNat], a', b', List.getElem?_eq_getElem hk, ?_⟩
  rw [call_eq h rfl]
  simp [bnd, G.ret, rd, opt, eS, item, seqI, seqL, ixOf, cmpop, biop, bInt, bLen, bList, bAbs, binop, big, asg, fits, line, wEq_str, wEq_int, wEq_bl, someB, e, h1, h2, hk]
/-- what shuffled leaves: its two lists behind the store -/
theorem shuf_law {n r : Nat} (hr : P.defs[r]? = some ⟨2, 4, rollB⟩) (h : P.defs[n]? = some ⟨2, 4, shufB r⟩) (hf : 1000 ≤ P.fuel) (d : Nat) (w : W) (xs : List W) (a b : Int) (t : ST) (hw : bList (cup a b t) [w] = some (.lst xs)) (hl : xs.length < 1000) :
    ∃ (ys : List W) (a' b' : Int), ys.Perm xs ∧ callD P (d + 2) n [.ref 0, w] (cup a b t) = .ok (.ref (t.length + 2)) (cup a' b' (t ++ [[], ys])) := by
  rw [call_eq h rfl]
  have key := whl_rule (c := fun env => evE P (callD P (d + 1)) (.cmp .ne (.var 2) (.lst .nil)) env) (b := fun env s => evS P (callD P (d + 1)) (.seq (.expr (.meth .append (.var 3) (.cons (.meth .pop (.var 2) (.cons (.call r (.cons (.var 0) (.cons (.bi .len (.cons (.var 2) .nil)) .nil))) .nil)) .nil))) .nil) env s)
    (Q := fun R => ∃ (ys : List W) (a' b' : Int), ys.Perm xs ∧ R = .ok .nx [some (.ref 0), some w, some (.ref (t.length + 1)), some (.ref (t.length + 2))] (cup a' b' (t ++ [[], ys])))
    (fun k env s => ∃ (zs ys : List W) (a' b' : Int), zs.length < k ∧ (ys ++ zs).Perm xs ∧ env = [some (.ref 0), some w, some (.ref (t.length + 1)), some (.ref (t.length + 2))] ∧ s = cup a' b' (t ++ [zs, ys]))
    (fun env s ⟨_, _, _, _, h, _⟩ => by omega)
    (fun k env s ⟨zs, ys, a', b', hk, hp, he, hs⟩ => by
      subst he
      subst hs
      have g1 : (t ++ [zs, ys])[t.length]? = some zs := by simp [bnd, G.ret, rd, opt, eS, item, seqI, seqL, ixOf, cmpop, biop, bInt, bLen, bList, bAbs, binop, big, asg, fits, line, wEq_str, wEq_int, wEq_bl]
      cases zs with
      | nil =>
        refine .inl ⟨?_, ys, a', b', by simpa [bnd, G.ret, rd, opt, eS, item, seqI, seqL, ixOf, cmpop, biop, bInt, bLen, bList, bAbs, binop, big, asg, fits, line, wEq_str, wEq_int, wEq_bl] using hp, rfl⟩
        simp [bnd, G.ret, rd, opt, eS, item, seqI, seqL, ixOf, cmpop, biop, bInt, bLen, bList, bAbs, binop, big, asg, fits, line, wEq_str, wEq_int, wEq_bl, wEq, deref, g1, eqOk, eqOks, weq, weqs]
      | cons z zs =>
        refine .inr ⟨?_, .inl ?_⟩
        · simp [bnd, G.ret, rd, opt, eS, item, seqI, seqL, ixOf, cmpop, biop, bInt, bLen, bList, bAbs, binop, big, asg, fits, line, wEq_str, wEq_int, wEq_bl, wEq, deref, g1, eqOk, eqOks, weq, weqs]
        · have hlz : (z :: zs).length < 1000 := by
            have := hp.length_eq
            simp only [List.length_append] at this
            omega
          have hly : ys.length < 1000 := by
            have := hp.length_eq
            simp only [List.length_append] at this
            omega
          obtain ⟨i, a2, b2, h1, h2, e⟩ := roll_law hr d (z :: zs).length a' b' (t ++ [z :: zs, ys]) (by simp only [List.length_cons]; omega) (by omega)
          have hi : i.toNat < (z :: zs).length := by omega
          refine ⟨_, cup a2 b2 (t ++ [(z :: zs).eraseIdx i.toNat, ys ++ [(z :: zs)[i.toNat]]]), ?_, (z :: zs).eraseIdx i.toNat, ys ++ [(z :: zs)[i.toNat]], a2, b2, ?_, ?_, rfl, rfl⟩
          · have e' : callD P (d + 1) r [.ref 0, .int ((zs.length : Int) + 1)] (cup a' b' (t ++ [z :: zs, ys])) = .ok (.int i) (cup a2 b2 (t ++ [z :: zs, ys])) := by
              simpa [bnd, G.ret, rd, opt, eS, item, seqI, seqL, ixOf, cmpop, biop, bInt, bLen, bList, bAbs, binop, big, asg, fits, line, wEq_str, wEq_int, wEq_bl] using e
            have g2 : (z :: zs)[i.toNat]? = some (z :: zs)[i.toNat] := List.getElem?_eq_getElem hi
            have c1 : -1000000 < i ∧ i < 1000000 := by omega
            have h2' : i < (zs.length : Int) + 1 := by simpa [bnd, G.ret, rd, opt, eS, item, seqI, seqL, ixOf, cmpop, biop, bInt, bLen, bList, bAbs, binop, big, asg, fits, line, wEq_str, wEq_int, wEq_bl] using h2
            have c2 : ys.length < 16777216 := by omega
            simp [bnd, G.ret, rd, opt, eS, item, seqI, seqL, ixOf, cmpop, biop, bInt, bLen, bList, bAbs, binop, big, asg, fits, line, wEq_str, wEq_int, wEq_bl, g1, e', Me.isL, meL, mPop, mApp, h1, h2', c1, c2, List.set_append]
          · rw [List.length_eraseIdx_of_lt hi]
            simp only [List.length_cons] at hk ⊢
            omega
          · refine List.Perm.trans ?_ hp
            rw [List.append_assoc]
            exact List.Perm.append_left ys (erase_perm (List.getElem?_eq_getElem hi)))
    (n := P.fuel) (k := xs.length + 1) (env := [some (.ref 0), some w, some (.ref (t.length + 1)), some (.ref (t.length + 2))]) (s := cup a b (t ++ [xs, []])) (by omega) ⟨xs, [], a, b, by omega, by simp [bnd, G.ret, rd, opt, eS, item, seqI, seqL, ixOf, cmpop, biop, bInt, bLen, bList, bAbs, binop, big, asg, fits, line, wEq_str, wEq_int, wEq_bl], rfl, rfl⟩
  obtain ⟨ys, a', b', hp, key⟩ := key
  refine ⟨ys, a', b', hp, ?_⟩
  have ml : evE P (callD P (d + 1)) (.bi .mlist (.cons (.var 1) .nil)) [some (.ref 0), some w, none, none] (cup a b t) = .ok (.ref (t.length + 1)) (cup a b (t ++ [xs])) := by
    rw [xE_bi_mlist]
    have hw' : biop .list [w] (cup a b t) = some (.lst xs) := hw
    simp [bnd, G.ret, rd, opt, eS, item, seqI, seqL, ixOf, cmpop, biop, bInt, bLen, bList, bAbs, binop, big, asg, fits, line, wEq_str, wEq_int, wEq_bl, hw', -biop]
  have key := evS_whl.trans key
  simp [bnd, G.ret, rd, opt, eS, item, seqI, seqL, ixOf, cmpop, biop, bInt, bLen, bList, bAbs, binop, big, asg, fits, line, wEq_str, wEq_int, wEq_bl, shufB, ml, key]
end
end G

set_option linter.all false
set_option autoImplicit false
set_option maxRecDepth 100000
/-! MQ: texts of data: tokens, lines, what is read. No program here. -/
namespace Q1
open G
abbrev Tok := List Nat
def quoS : List Nat := [113, 117, 111, 116, 101]
def funS : List Nat := [102, 117, 110, 99, 116, 105, 111, 110]
def nil3 : List Nat := [110, 105, 108]
def figs : List Nat := [48, 49, 50, 51, 52, 53, 54, 55, 56, 57]
def signs : List Nat := [97, 98, 99, 100, 101, 102, 103, 104, 105, 106, 107, 108, 109, 110, 111, 112, 113, 114, 115, 116, 117, 118, 119, 120, 121, 122, 48, 49, 50, 51, 52, 53, 54, 55, 56, 57, 45, 42, 43, 47, 60, 62, 61, 33, 63, 38, 58]
def madeB (l S : List Nat) : Bool := !(l == []) && l.all (fun c => decide (c ∈ S))
/-- behind a sign -/
def unsg : List Nat → List Nat
  | 43 :: r => r
  | 45 :: r => r
  | l => l
def figB (l : List Nat) : Bool := madeB (unsg l) figs
def wordB (l : List Nat) : Bool := madeB l signs && (decide (l.length ≤ 20) && (!(l == nil3) && !figB l))
def tsig (c : Nat) : Bool := c == 10 || (decide (32 ≤ c) && decide (c ≤ 126))
def textB (l : List Nat) : Bool := (l.take 1 == [34]) && (decide (l.length ≤ 401) && (l.drop 1).all (fun c => c == 10 || (decide (32 ≤ c) && decide (c ≤ 126))))
def atB : W → Bool
  | .int i => decide (-1000000000000 ≤ i) && decide (i ≤ 1000000000000)
  | .str l => wordB l || textB l
  | _ => false
mutual
def szW : W → Nat
  | .tup xs => szs xs + 1
  | _ => 1
def szs : List W → Nat
  | [] => 0
  | x :: xs => szW x + szs xs
end
mutual
def gdW : W → Bool
  | .tup xs => gds xs
  | w => atB w
def gds : List W → Bool
  | [] => true
  | x :: xs => gdW x && gds xs
end
/-! ### tokens of a text -/
def blank (c : Nat) : Bool := decide (c ∈ [32, 10])
def isP (c : Nat) : Bool := decide (c ∈ [40, 41, 39, 32, 10])
def isStop (c : Nat) : Bool := decide (c ∈ [40, 41, 39, 34, 32, 10])
/-- up to and with the sign that ends a text; the flag: behind a backslash -/
def qE : Bool → List Nat → Option Nat
  | _, [] => none
  | true, _ :: r => (qE false r).map (· + 1)
  | false, c :: r => if c = 34 then some 1 else (qE (c == 92) r).map (· + 1)
def tokLen : List Nat → Option Nat
  | [] => some 0
  | c :: r => if c = 34 then (qE false r).map (· + 1) else if c = 35 ∧ r.head? = some 39 then some 2 else if isP c = true then some 1 else some ((c :: r).takeWhile fun c => !isStop c).length
/-- the signs of a text; the flag: behind a backslash -/
def lets : Bool → List Nat → Option (List Nat)
  | _, [] => some []
  | b, c :: r => if ((b && !decide (c ∈ [34, 92])) || !tsig c) = true then none else if (c == 92 && !b) = true then lets true r else (lets false r).map (c :: ·)
def mid (t : Tok) : List Nat := (t.drop 1).take (t.length - 2)
def pToks : List Tok := [[40], [41], [39], [35, 39]]
def fitsT (t : Tok) : Bool := decide (t ∈ pToks) || (if t.head? = some 34 then (lets false (mid t)).isSome else madeB t signs)
def lx : Nat → Nat → List Nat → Except Nat (List (Nat × Tok))
  | 0, _, _ => .ok []
  | _ + 1, _, [] => .ok []
  | f + 1, i, c :: r => match tokLen (c :: r) with
    | none => .error (i + (c :: r).length)
    | some n => if blank c = true then lx f (i + n) ((c :: r).drop n) else if fitsT ((c :: r).take n) = true then
        (match lx f (i + n) ((c :: r).drop n) with
          | .ok l => .ok ((i, (c :: r).take n) :: l)
          | .error e => .error e)
      else .error i
def esc : List Nat → List Nat
  | [] => []
  | c :: r => (if c ∈ [34, 92] then [92, c] else [c]) ++ esc r
def isA (t : Tok) : Bool := madeB t signs
inductive TG : Tok → Prop
  | p {t : Tok} : t ∈ pToks → TG t
  | q {l : List Nat} : (∀ c ∈ l, tsig c = true) → TG (34 :: (esc l ++ [34]))
  | a {t : Tok} : isA t = true → TG t
def stH (l : List Nat) : Bool := match l with
  | [] => false
  | c :: _ => isStop c
abbrev Its := List (List Nat × Tok)
def txt : Its → List Nat
  | [] => []
  | (g, t) :: r => g ++ (t ++ txt r)
def due : Nat → Its → List (Nat × Tok)
  | _, [] => []
  | i, (g, t) :: r => (i + g.length, t) :: due (i + g.length + t.length) r
def Ch : Bool → Its → Prop
  | _, [] => True
  | p, (g, t) :: r => (∀ c ∈ g, blank c = true) ∧ TG t ∧ (p = true → g = [] → stH t = true) ∧ Ch (isA t) r
theorem Ch.no {p : Bool} : ∀ {l : Its}, Ch p l → Ch false l
  | [], _ => trivial
  | (g, t) :: r, h => ⟨h.1, h.2.1, (fun q => by cases q), h.2.2.2⟩
theorem Ch.app : ∀ {a b : Its} {p : Bool}, Ch p a → (∀ q, Ch q b) → Ch p (a ++ b)
  | [], b, p, _, h => h p
  | (g, t) :: r, b, p, h, k => ⟨h.1, h.2.1, h.2.2.1, Ch.app h.2.2.2 k⟩
theorem txt_app : ∀ a b : Its, txt (a ++ b) = txt a ++ txt b
  | [], b => rfl
  | (g, t) :: r, b => by simp [txt, txt_app r b]
theorem lets_esc : ∀ {l : List Nat}, (∀ c ∈ l, tsig c = true) → lets false (esc l) = some l
  | [], _ => rfl
  | c :: r, h => by
    have hc := h c List.mem_cons_self
    have ih := lets_esc (l := r) fun x hx => h x (List.mem_cons_of_mem c hx)
    by_cases q : c ∈ [34, 92]
    · have e : esc (c :: r) = 92 :: c :: esc r := by simp only [esc, if_pos q]; rfl
      have t92 : tsig 92 = true := by decide
      rw [e]
      simp [lets, t92, q, hc, ih]
    · have e : esc (c :: r) = c :: esc r := by simp only [esc, if_neg q]; rfl
      have n92 : (c == 92) = false := by
        simp only [beq_eq_false_iff_ne, ne_eq]
        rintro rfl; exact q (by simp)
      rw [e]
      simp [lets, hc, ih, n92]
theorem qE_esc (rest : List Nat) : ∀ l : List Nat, qE false (esc l ++ 34 :: rest) = some ((esc l).length + 1)
  | [] => by simp [esc, qE]
  | c :: r => by
    have ih := qE_esc rest r
    by_cases q : c ∈ [34, 92]
    · have e : esc (c :: r) = 92 :: c :: esc r := by simp only [esc, if_pos q]; rfl
      rw [e]
      simp [qE, ih]
    · have e : esc (c :: r) = c :: esc r := by simp only [esc, if_neg q]; rfl
      have n34 : c ≠ 34 := by rintro rfl; exact q (by simp)
      have n92 : (c == 92) = false := by
        simp only [beq_eq_false_iff_ne, ne_eq]
        rintro rfl; exact q (by simp)
      rw [e]
      simp [qE, n34, n92, ih]
theorem mid_q (l : List Nat) : mid (34 :: (l ++ [34])) = l := by
  simp [mid]
theorem sign_facts : ∀ c ∈ signs, isStop c = false ∧ c ≠ 34 ∧ c ≠ 35 ∧ isP c = false ∧ blank c = false := by decide
theorem isA_mem {t : Tok} (h : isA t = true) : t ≠ [] ∧ ∀ c ∈ t, c ∈ signs := by
  simp only [isA, madeB, Bool.and_eq_true, Bool.not_eq_true', List.all_eq_true, decide_eq_true_eq, beq_eq_false_iff_ne, ne_eq] at h
  exact h
theorem takeW_all {p : Nat → Bool} : ∀ {t rest : List Nat}, (∀ c ∈ t, p c = true) → (rest = [] ∨ ∃ c r, rest = c :: r ∧ p c = false) → (t ++ rest).takeWhile p = t
  | [], rest, _, h => by
    rcases h with rfl | ⟨c, r, rfl, hc⟩
    · rfl
    · simp [hc]
  | c :: t, rest, h, k => by
    have := takeW_all (t := t) (rest := rest) (fun x hx => h x (List.mem_cons_of_mem c hx)) k
    simp [h c List.mem_cons_self, this]
theorem st_cases {rest : List Nat} (h : rest = [] ∨ stH rest = true) : rest = [] ∨ ∃ c r, rest = c :: r ∧ (!isStop c) = false := by
  rcases h with h | h
  · exact .inl h
  · cases rest with
    | nil => exact .inl rfl
    | cons c r => exact .inr ⟨c, r, rfl, by simpa [stH] using h⟩
theorem tok_ok {t rest : List Nat} (h : TG t) (hs : isA t = true → rest = [] ∨ stH rest = true) : ∃ c r, t = c :: r ∧ blank c = false ∧ tokLen (c :: (r ++ rest)) = some (c :: r).length ∧ fitsT t = true := by
  cases h with
  | p h =>
    simp only [pToks, List.mem_cons, List.not_mem_nil, or_false] at h
    rcases h with rfl | rfl | rfl | rfl
    · exact ⟨40, [], rfl, by decide, by simp [tokLen, isP], by decide⟩
    · exact ⟨41, [], rfl, by decide, by simp [tokLen, isP], by decide⟩
    · exact ⟨39, [], rfl, by decide, by simp [tokLen, isP], by decide⟩
    · exact ⟨35, [39], rfl, by decide, by simp [tokLen, isP], by decide⟩
  | @q l h =>
    refine ⟨34, esc l ++ [34], rfl, by decide, ?_, ?_⟩
    · have := qE_esc rest l
      simp [tokLen, this]
    · have hm := mid_q (esc l)
      simp [fitsT, hm, lets_esc h]
  | a h =>
    obtain ⟨h0, h1⟩ := isA_mem h
    cases t with
    | nil => exact (h0 rfl).elim
    | cons c r =>
      obtain ⟨f1, f2, f3, f4, f5⟩ := sign_facts c (h1 c List.mem_cons_self)
      refine ⟨c, r, rfl, f5, ?_, ?_⟩
      · have hw := takeW_all (p := fun c => !isStop c) (t := c :: r) (rest := rest) (fun x hx => by simp [(sign_facts x (h1 x hx)).1]) (st_cases (hs h))
        rw [List.cons_append] at hw
        simp [tokLen, f2, f3, f4, hw]
      · have n : ¬ (c :: r).head? = some 34 := by simpa using f2
        simp only [fitsT, if_neg n]
        have : madeB (c :: r) signs = true := h
        rw [this, Bool.or_true]
theorem lx_blank : ∀ {tail : List Nat} {f i : Nat}, (∀ c ∈ tail, blank c = true) → lx f i tail = .ok []
  | _, 0, _, _ => rfl
  | [], f + 1, _, _ => rfl
  | c :: r, f + 1, i, h => by
    have hb := h c List.mem_cons_self
    have ih := lx_blank (tail := r) (f := f) (i := i + 1) fun x hx => h x (List.mem_cons_of_mem c hx)
    have hm : c = 32 ∨ c = 10 := by simpa [blank] using hb
    have ht : tokLen (c :: r) = some 1 := by rcases hm with rfl | rfl <;> simp [tokLen, isP]
    simp [lx, ht, hb, ih]
theorem txt_st {r : Its} {tail : List Nat} (h : Ch true r) (hb : ∀ c ∈ tail, blank c = true) : txt r ++ tail = [] ∨ stH (txt r ++ tail) = true := by
  have hbs : ∀ c, blank c = true → isStop c = true := fun c h => by
    have : c = 32 ∨ c = 10 := by simpa [blank] using h
    rcases this with rfl | rfl <;> decide
  match r, h with
  | [], _ =>
    cases tail with
    | nil => exact .inl rfl
    | cons c t => exact .inr (hbs c (hb c List.mem_cons_self))
  | ([], t) :: r, h =>
    have := h.2.2.1 rfl rfl
    cases t with
    | nil => simp [stH] at this
    | cons c t => exact .inr this
  | (c :: g, t) :: r, h => exact .inr (hbs c (h.1 c List.mem_cons_self))
theorem lx_ok {tail : List Nat} (hb : ∀ c ∈ tail, blank c = true) : ∀ (l : Its) (f i : Nat), Ch false l → (txt l ++ tail).length ≤ f → lx f i (txt l ++ tail) = .ok (due i l)
  | [], f, i, _, _ => lx_blank hb
  | ([], t) :: r, f, i, h, hf => by
    obtain ⟨_, ht, _, hr⟩ := h
    have hs : isA t = true → (txt r ++ tail) = [] ∨ stH (txt r ++ tail) = true := fun q => by
      rw [q] at hr
      exact txt_st hr hb
    obtain ⟨c, t', rfl, h1, h2, h3⟩ := tok_ok ht hs
    have e : txt (([], c :: t') :: r) ++ tail = c :: (t' ++ (txt r ++ tail)) := by simp [txt]
    rw [e] at hf ⊢
    cases f with
    | zero => simp at hf
    | succ f =>
      have d1 : (c :: (t' ++ (txt r ++ tail))).drop (c :: t').length = txt r ++ tail := by
        rw [← List.cons_append, List.drop_left]
      have d2 : (c :: (t' ++ (txt r ++ tail))).take (c :: t').length = c :: t' := by
        rw [← List.cons_append, List.take_left]
      have ih := lx_ok hb r f (i + (c :: t').length) hr.no (by
        have hf : (t' ++ (txt r ++ tail)).length + 1 ≤ f + 1 := hf
        rw [List.length_append] at hf
        omega)
      simp only [lx, h2, h1, d1, d2, h3, ih, if_true, Bool.false_eq_true, if_false, due, List.length_nil, Nat.add_zero]
  | (c :: g, t) :: r, f, i, h, hf => by
    have hbc := h.1 c List.mem_cons_self
    have e : txt ((c :: g, t) :: r) ++ tail = c :: (txt ((g, t) :: r) ++ tail) := by simp [txt]
    rw [e] at hf ⊢
    cases f with
    | zero => simp at hf
    | succ f =>
      have ih := lx_ok hb ((g, t) :: r) f (i + 1) ⟨fun x hx => h.1 x (List.mem_cons_of_mem c hx), h.2.1, (fun q => by cases q), h.2.2.2⟩ (by
        have hf : (txt ((g, t) :: r) ++ tail).length + 1 ≤ f + 1 := hf
        omega)
      have hm : c = 32 ∨ c = 10 := by simpa [blank] using hbc
      have ht : tokLen (c :: (txt ((g, t) :: r) ++ tail)) = some 1 := by rcases hm with rfl | rfl <;> simp [tokLen, isP]
      simp only [lx, ht, hbc, if_true, List.drop_succ_cons, List.drop_zero, ih, due, List.length_cons]
      have e1 : i + 1 + g.length = i + (g.length + 1) := by omega
      rw [e1]
termination_by l => (l.length, (l.head?.map (·.1.length)).getD 0)
end Q1

set_option linter.all false
set_option autoImplicit false
set_option maxRecDepth 100000
/-! MR: texts of data written; lines of what is open; numbers. No program here. -/
namespace Q1
open G
/-! ### numbers -/
theorem digit_at {d : Nat} (h : d < 10) : (Nat.digitChar d).toNat = 48 + d := by
  have : ∀ d : Fin 10, (Nat.digitChar d.val).toNat = 48 + d.val := by decide
  exact this ⟨d, h⟩
theorem dg_low {n : Nat} (h : n < 10) : digits n = [48 + n] := by
  unfold digits
  rw [Nat.toDigits_of_lt_base h]
  simp [digit_at h]
theorem dg_high {n : Nat} (h : 10 ≤ n) : digits n = digits (n / 10) ++ [48 + n % 10] := by
  unfold digits
  rw [Nat.toDigits_of_base_le (by omega) h]
  simp [digit_at (Nat.mod_lt n (by omega : 0 < 10))]
theorem dv_app (a : List Nat) (c : Nat) : digsVal (a ++ [c]) = digsVal a * 10 + (c - 48) := by simp [digsVal]
theorem dv_zero (r : List Nat) : digsVal (48 :: r) = digsVal r := by simp [digsVal]
theorem dg_facts : ∀ n : Nat, digits n ≠ [] ∧ (∀ c ∈ digits n, c ∈ figs) ∧ digsVal (digits n) = n := by
  intro n
  have fm : ∀ d, d < 10 → 48 + d ∈ figs := fun d h => by
    have : ∀ d : Fin 10, 48 + d.val ∈ figs := by decide
    exact this ⟨d, h⟩
  induction n using Nat.strongRecOn with
  | ind n ih =>
    by_cases h : n < 10
    · rw [dg_low h]
      refine ⟨by simp, fun c hc => ?_, by simp [digsVal]⟩
      rw [List.mem_singleton.mp hc]
      exact fm n h
    · have h : 10 ≤ n := by omega
      obtain ⟨i1, i2, i3⟩ := ih (n / 10) (by omega)
      rw [dg_high h]
      refine ⟨by simp, fun c hc => ?_, ?_⟩
      · rcases List.mem_append.mp hc with hc | hc
        · exact i2 c hc
        · rw [List.mem_singleton.mp hc]
          exact fm _ (by omega)
      · rw [dv_app, i3]; omega
theorem dg_len : ∀ (k n : Nat), n < 10 ^ (k + 1) → (digits n).length ≤ k + 1
  | 0, n, h => by rw [dg_low (by simpa using h)]; simp
  | k + 1, n, h => by
    by_cases hn : n < 10
    · rw [dg_low hn]; simp
    · rw [dg_high (by omega), List.length_append]
      have := dg_len k (n / 10) (by
        rw [Nat.div_lt_iff_lt_mul (by omega)]
        rw [Nat.pow_succ] at h
        exact h)
      simp only [List.length_singleton]
      omega
abbrev zs (l : List Nat) : List Nat := l.dropWhile fun c => decide (c ∈ [48])
theorem zs_val : ∀ l : List Nat, digsVal (zs l) = digsVal l
  | [] => rfl
  | c :: r => by
    unfold zs
    rw [List.dropWhile_cons]
    split
    · rename_i h
      have : c = 48 := by simpa using h
      subst this
      rw [dv_zero]
      exact zs_val r
    · rfl
theorem zs_len : ∀ l : List Nat, (zs l).length ≤ l.length
  | [] => Nat.le_refl _
  | c :: r => by
    unfold zs
    rw [List.dropWhile_cons]
    split
    · exact Nat.le_succ_of_le (zs_len r)
    · exact Nat.le_refl _
theorem zs_app : ∀ (z d : List Nat), (∀ c ∈ z, c = 48) → zs (z ++ d) = zs d
  | [], d, _ => rfl
  | c :: z, d, h => by
    have := h c List.mem_cons_self
    subst this
    have ih := zs_app z d fun x hx => h x (List.mem_cons_of_mem _ hx)
    unfold zs at ih ⊢
    rw [List.cons_append, List.dropWhile_cons]
    simpa using ih
/-- whether a sign stands ahead -/
def sgd (t : Tok) : Bool := match t with
  | [] => false
  | c :: _ => decide (c ∈ [43, 45])
def bodyT (t : Tok) : List Nat := zs (if sgd t = true then t.drop 1 else t)
def numT (t : Tok) : Int := if (bodyT t).length < 15 then (digsVal (48 :: bodyT t) : Nat) else 1000000000000000
def intB (t : Tok) : Int := if t.head? = some 45 then -numT t else numT t
theorem num_gen {n : Nat} {z : List Nat} (h : n < 10 ^ 13) (hz : ∀ c ∈ z, c = 48) : (zs (z ++ digits n)).length < 15 ∧ digsVal (48 :: zs (z ++ digits n)) = n := by
  rw [zs_app z _ hz, dv_zero, zs_val, (dg_facts n).2.2]
  have := zs_len (digits n)
  have := dg_len 12 n h
  exact ⟨by omega, rfl⟩
theorem fig_facts : ∀ c ∈ figs, c ∈ signs ∧ c ≠ 43 ∧ c ≠ 45 ∧ c ≠ 34 := by decide
theorem unsg_no {c : Nat} {r : List Nat} (h1 : c ≠ 43) (h2 : c ≠ 45) : unsg (c :: r) = c :: r := by
  unfold unsg
  split <;> simp_all
theorem madeB_of {l S : List Nat} (h0 : l ≠ []) (h : ∀ c ∈ l, c ∈ S) : madeB l S = true := by
  simp only [madeB, Bool.and_eq_true, Bool.not_eq_true', List.all_eq_true, decide_eq_true_eq, beq_eq_false_iff_ne, ne_eq]
  exact ⟨h0, h⟩
def atomB (t : Tok) : W := if t.head? = some 34 then .str (34 :: (lets false (mid t)).getD []) else if t = nil3 then .tup [] else if figB t = true then .int (intB t) else .str t
def isOp (t : Tok) : Bool := decide (t ∈ [[40], [39], [35, 39]])
/-- an atom's token -/
structure AtT (t : Tok) (w : W) : Prop where
  tg : TG t
  op : isOp t = false
  cl : t ≠ [41]
  at_ : atomB t = w
theorem isA_op {t : Tok} (h : isA t = true) : isOp t = false ∧ t ≠ [41] ∧ t.head? ≠ some 34 := by
  obtain ⟨h0, h1⟩ := isA_mem h
  refine ⟨?_, ?_, ?_⟩
  · unfold isOp
    rw [decide_eq_false_iff_not]
    intro hm
    simp only [List.mem_cons, List.not_mem_nil, or_false] at hm
    rcases hm with rfl | rfl | rfl <;> revert h <;> decide
  · rintro rfl; revert h; decide
  · cases t with
    | nil => simp
    | cons c r =>
      have := (sign_facts c (h1 c List.mem_cons_self)).2.1
      simpa using this
theorem at_fig {t : Tok} {i : Int} (h1 : isA t = true) (h2 : figB t = true) (h3 : intB t = i) : AtT t (.int i) := by
  obtain ⟨a, b, c⟩ := isA_op h1
  refine ⟨.a h1, a, b, ?_⟩
  have n : t ≠ nil3 := by rintro rfl; revert h2; decide
  unfold atomB
  rw [if_neg c, if_neg n, if_pos h2, h3]
/-- figures behind zeros, behind a sign or none -/
theorem at_num {s z : List Nat} {n : Nat} (hs : s = [] ∨ s = [43] ∨ s = [45]) (hz : ∀ c ∈ z, c = 48) (hn : n < 10 ^ 13) : AtT (s ++ (z ++ digits n)) (.int (if s = [45] then -(n : Int) else n)) := by
  obtain ⟨f1, f2, f3⟩ := dg_facts n
  obtain ⟨g1, g2⟩ := num_gen hn hz
  have hf : ∀ c ∈ z ++ digits n, c ∈ figs := fun c hc => by
    rcases List.mem_append.mp hc with h | h
    · rw [hz c h]; decide
    · exact f2 c h
  have h0 : z ++ digits n ≠ [] := by simp [f1]
  generalize z ++ digits n = d at *
  have hm := madeB_of h0 hf
  cases d with
  | nil => exact (h0 rfl).elim
  | cons c r =>
    obtain ⟨q1, q2, q3, q4⟩ := fig_facts c (hf c List.mem_cons_self)
    rcases hs with rfl | rfl | rfl
    · refine at_fig (madeB_of (by simp) fun x hx => (fig_facts x (hf x hx)).1) ?_ ?_
      · rw [List.nil_append]; unfold figB; rw [unsg_no q2 q3]; exact hm
      · have sg : sgd (c :: r) = false := by simp [sgd, q2, q3]
        rw [List.nil_append]
        have hb : bodyT (c :: r) = zs (c :: r) := by simp only [bodyT, sg, Bool.false_eq_true, if_false]
        unfold intB numT
        rw [hb, if_neg (by simpa using q3), if_pos g1, g2]
        rfl
    · refine at_fig (madeB_of (by simp) fun x hx => ?_) hm ?_
      · rcases List.mem_append.mp hx with h | h
        · rw [List.mem_singleton.mp h]; decide
        · exact (fig_facts x (hf x h)).1
      · have hb : bodyT ([43] ++ c :: r) = zs (c :: r) := rfl
        unfold intB numT
        rw [hb, if_neg (by simp), if_pos g1, g2]
        rfl
    · refine at_fig (madeB_of (by simp) fun x hx => ?_) hm ?_
      · rcases List.mem_append.mp hx with h | h
        · rw [List.mem_singleton.mp h]; decide
        · exact (fig_facts x (hf x h)).1
      · have hb : bodyT ([45] ++ c :: r) = zs (c :: r) := rfl
        unfold intB numT
        rw [hb, if_pos rfl, if_pos g1, g2]
        rfl
theorem at_int {i : Int} (h1 : -1000000000000 ≤ i) (h2 : i ≤ 1000000000000) : AtT (intStr i) (.int i) := by
  have hn : i.natAbs < 10 ^ 13 := by omega
  unfold intStr
  by_cases h : i < 0
  · have := at_num (s := [45]) (z := []) (.inr (.inr rfl)) (by simp) hn
    rw [if_pos rfl, show -(i.natAbs : Int) = i by omega] at this
    rw [if_pos h]
    exact this
  · have := at_num (s := []) (z := []) (.inl rfl) (by simp) hn
    rw [if_neg (by simp), show (i.natAbs : Int) = i by omega] at this
    rw [if_neg h]
    exact this
theorem at_word {l : List Nat} (h : wordB l = true) : AtT l (.str l) := by
  simp only [wordB, Bool.and_eq_true, Bool.not_eq_true', decide_eq_true_eq, beq_eq_false_iff_ne, ne_eq] at h
  obtain ⟨h1, h2, h3, h4⟩ := h
  obtain ⟨a, b, c⟩ := isA_op h1
  refine ⟨.a h1, a, b, ?_⟩
  unfold atomB
  rw [if_neg c, if_neg h3, if_neg (by simp [h4])]
theorem at_nil : AtT nil3 (.tup []) := ⟨.a (by decide), by decide, by decide, rfl⟩
def atS (l : List Nat) : List Nat := if l.head? = some 34 then 34 :: (esc (l.drop 1) ++ [34]) else l
theorem textB_of {l : List Nat} (h : textB l = true) : ∃ r, l = 34 :: r ∧ r.length ≤ 400 ∧ ∀ c ∈ r, tsig c = true := by
  simp only [textB, Bool.and_eq_true, decide_eq_true_eq, beq_iff_eq, List.all_eq_true] at h
  obtain ⟨h1, h2, h3⟩ := h
  cases l with
  | nil => simp at h1
  | cons c r =>
    have : c = 34 := by simpa using h1
    subst this
    exact ⟨r, rfl, by simpa using h2, h3⟩
theorem at_text {l : List Nat} (h : textB l = true) : AtT (atS l) (.str l) := by
  obtain ⟨r, rfl, _, hr⟩ := textB_of h
  have e : atS (34 :: r) = 34 :: (esc r ++ [34]) := rfl
  rw [e]
  refine ⟨.q hr, ?_, by simp, ?_⟩
  · unfold isOp
    rw [decide_eq_false_iff_not]
    simp
  · unfold atomB
    rw [if_pos (by rfl), mid_q, lets_esc hr]
    rfl
theorem word_at {l : List Nat} (h : wordB l = true) : atS l = l := by
  simp only [wordB, Bool.and_eq_true] at h
  have := (isA_op h.1).2.2
  unfold atS
  rw [if_neg this]
theorem at_str {l : List Nat} (h : (wordB l || textB l) = true) : AtT (atS l) (.str l) := by
  rcases Bool.or_eq_true_iff.mp h with h | h
  · rw [word_at h]; exact at_word h
  · exact at_text h
/-! ### texts of data -/
def qT (b : Bool) : Tok := if b = true then [39] else [35, 39]
def qS (b : Bool) : List Nat := if b = true then quoS else funS
def quoOf : List W → Option Bool
  | [.str l, _] => if l = quoS then some true else if l = funS then some false else none
  | _ => none
mutual
def wr : W → List Nat
  | .int i => intStr i
  | .str l => atS l
  | .tup xs => match quoOf xs with
    | some b => qT b ++ (wrs xs).getD 1 []
    | none => if xs.isEmpty = true then nil3 else 40 :: (joinS [32] (wrs xs) ++ [41])
  | _ => []
def wrs : List W → List (List Nat)
  | [] => []
  | x :: xs => wr x :: wrs xs
end
theorem quoOf_some {xs : List W} {b : Bool} (h : quoOf xs = some b) : ∃ x, xs = [.str (qS b), x] := by
  unfold quoOf at h
  split at h
  · rename_i l x
    by_cases h1 : l = quoS
    · rw [if_pos h1] at h; cases h; exact ⟨x, by rw [h1]; rfl⟩
    · rw [if_neg h1] at h
      by_cases h2 : l = funS
      · rw [if_pos h2] at h; cases h; exact ⟨x, by rw [h2]; rfl⟩
      · rw [if_neg h2] at h; cases h
  · cases h
theorem quoOf_mk (b : Bool) (x : W) : quoOf [.str (qS b), x] = some b := by cases b <;> simp [quoOf, qS, quoS, funS]
/-! ### tokens of a datum -/
inductive TkX : W ⊕ List W → List Tok → Prop
  | atom {w : W} {t : Tok} : AtT t w → TkX (.inl w) [t]
  | quo {w : W} {ts : List Tok} (b : Bool) : TkX (.inl w) ts → TkX (.inl (.tup [.str (qS b), w])) (qT b :: ts)
  | tup {ws : List W} {ts : List Tok} : TkX (.inr ws) ts → TkX (.inl (.tup ws)) ([40] :: (ts ++ [[41]]))
  | nil : TkX (.inr []) []
  | cons {w : W} {ws : List W} {t ts : List Tok} : TkX (.inl w) t → TkX (.inr ws) ts → TkX (.inr (w :: ws)) (t ++ ts)
abbrev Tk (w : W) (ts : List Tok) : Prop := TkX (.inl w) ts
def jn : List Nat → List W → List Nat
  | _, [] => []
  | g, x :: xs => g ++ (wr x ++ jn [32] xs)
theorem jn_join : ∀ (xs : List W) (x : W) (g : List Nat), jn g (x :: xs) = g ++ joinS [32] (wrs (x :: xs))
  | [], x, g => by simp [jn, wrs, joinS]
  | y :: ys, x, g => by
    have := jn_join ys y [32]
    simp only [jn, wrs, joinS] at this ⊢
    rw [this]
theorem szW_pos (w : W) : 1 ≤ szW w := by cases w <;> simp [szW]
abbrev Bl (g : List Nat) : Prop := ∀ c ∈ g, blank c = true
theorem bl_nil : Bl [] := fun _ h => nomatch h
theorem bl_sp : Bl [32] := by decide
theorem one_item {w : W} {t g : List Nat} (h : AtT t w) (hg : Bl g) : ∃ l : Its, txt l = g ++ t ∧ Tk w (l.map (·.2)) ∧ ∀ p, (p = true → g ≠ []) → Ch p l :=
  ⟨[(g, t)], by simp [txt], .atom h, fun p hp => ⟨hg, h.tg, fun q e => (hp q e).elim, trivial⟩⟩
theorem canon : ∀ (n : Nat) (w : W), szW w ≤ n → gdW w = true → ∀ g, Bl g → ∃ l : Its, txt l = g ++ wr w ∧ Tk w (l.map (·.2)) ∧ ∀ p, (p = true → g ≠ []) → Ch p l
  | 0, w, h, _, _, _ => by have := szW_pos w; omega
  | n + 1, w, h, hw, g, hg => by
    have ih := canon n
    have ihs : ∀ (xs : List W), szs xs ≤ n → gds xs = true → ∀ g, Bl g → ∃ l : Its, txt l = jn g xs ∧ TkX (.inr xs) (l.map (·.2)) ∧ ∀ p, (p = true → g ≠ []) → Ch p l := by
      intro xs
      induction xs with
      | nil => exact fun _ _ g _ => ⟨[], rfl, .nil, fun _ _ => trivial⟩
      | cons x xs ih2 =>
        intro hs hg1 g hg
        simp only [szs, gds, Bool.and_eq_true] at hs hg1
        obtain ⟨l1, a1, b1, c1⟩ := ih x (by omega) hg1.1 g hg
        obtain ⟨l2, a2, b2, c2⟩ := ih2 (by omega) hg1.2 [32] bl_sp
        refine ⟨l1 ++ l2, by rw [txt_app, a1, a2]; simp [jn], ?_, fun p hp => (c1 p hp).app fun q => c2 q fun _ => by simp⟩
        rw [List.map_append]
        exact .cons b1 b2
    cases w with
    | int i =>
      have : (decide (-1000000000000 ≤ i) && decide (i ≤ 1000000000000)) = true := hw
      simp only [Bool.and_eq_true, decide_eq_true_eq] at this
      exact one_item (at_int this.1 this.2) hg
    | str l => exact one_item (at_str hw) hg
    | tup xs =>
      simp only [szW, gdW] at h hw
      cases q : quoOf xs with
      | some b =>
        obtain ⟨x, rfl⟩ := quoOf_some q
        simp only [szs, gds, Bool.and_eq_true, szW] at h hw
        obtain ⟨l, a, b1, c⟩ := ih x (by omega) hw.2.1 [] bl_nil
        refine ⟨(g, qT b) :: l, ?_, .quo b b1, fun p hp => ⟨hg, .p (by cases b <;> decide), fun q e => (hp q e).elim, ?_⟩⟩
        · simp [txt, wr, q, wrs, a]
        · have : isA (qT b) = false := by cases b <;> decide
          rw [this]
          exact c false fun q => by cases q
      | none =>
        cases xs with
        | nil => 
          have := one_item at_nil hg
          simpa [wr, quoOf] using this
        | cons x xs =>
          obtain ⟨l, a, b1, c⟩ := ihs (x :: xs) (by omega) hw [] bl_nil
          refine ⟨(g, [40]) :: (l ++ [([], [41])]), ?_, ?_, fun p hp => ⟨hg, .p (by decide), fun q e => (hp q e).elim, ?_⟩⟩
          · rw [jn_join, List.nil_append] at a
            simp [txt, txt_app, a, wr, q]
          · rw [List.map_cons, List.map_append]
            exact .tup b1
          · have : isA [40] = false := by decide
            rw [this]
            exact (c false fun q => by cases q).app fun q => ⟨bl_nil, .p (by decide), fun _ _ => by decide, trivial⟩
    | _ => cases hw
/-! ### lines of what is open: the last one first -/
abbrev Fr := Tok × List W
def pushR : List Fr → W → List Fr
  | [], _ => []
  | (t, ws) :: R, w => if t = [39] then pushR R (.tup [.str quoS, w]) else if t = [35, 39] then pushR R (.tup [.str funS, w]) else (t, ws ++ [w]) :: R
def bot (R : List Fr) : List W := match R.getLast? with
  | some p => p.2
  | none => []
def topT (R : List Fr) : Tok := match R with
  | [] => []
  | p :: _ => p.1
def topW (R : List Fr) : List W := match R with
  | [] => []
  | p :: _ => p.2
def stepR (R : List Fr) (t : Tok) : List Fr := if isOp t = true then (t, []) :: R else if t = [41] then pushR R.tail (.tup (topW R)) else pushR R (atomB t)
def badD (R : List Fr) (t : Tok) : Bool := !(bot R).isEmpty || (decide (t = [41]) && !decide (topT R = [40]))
def runD : List Fr → List (Nat × Tok) → Except Nat (List Fr)
  | R, [] => .ok R
  | R, p :: r => if badD R p.2 = true then .error p.1 else runD (stepR R p.2) r
def okR (R : List Fr) : Prop := R ≠ [] ∧ bot R = []
theorem bot_cons {p : Fr} {R : List Fr} (h : R ≠ []) : bot (p :: R) = bot R := by
  unfold bot
  rw [List.getLast?_cons]
  cases e : R.getLast? with
  | none => exact (h (List.getLast?_eq_none_iff.mp e)).elim
  | some q => rfl
theorem okR_cons {p : Fr} {R : List Fr} (h : okR R) : okR (p :: R) := ⟨by simp, by rw [bot_cons h.1]; exact h.2⟩
theorem runD_step {R : List Fr} {p : Nat × Tok} {r : List (Nat × Tok)} (h : okR R) (hc : p.2 = [41] → topT R = [40]) : runD R (p :: r) = runD (stepR R p.2) r := by
  have : badD R p.2 = false := by
    unfold badD
    rw [h.2]
    by_cases q : p.2 = [41]
    · simp [q, hc q]
    · simp [q]
  rw [runD, this]
  simp
theorem run_tk {x : W ⊕ List W} {ts : List Tok} (h : TkX x ts) : match x with
    | .inl w => ∀ (R : List Fr) (l l2 : List (Nat × Tok)), okR R → l.map (·.2) = ts → runD R (l ++ l2) = runD (pushR R w) l2
    | .inr ws => ∀ (R : List Fr) (acc : List W) (l l2 : List (Nat × Tok)), okR R → l.map (·.2) = ts → runD (([40], acc) :: R) (l ++ l2) = runD (([40], acc ++ ws) :: R) l2 := by
  induction h with
  | @atom w t a =>
    intro R l l2 ok e
    obtain ⟨p, rfl, e'⟩ : ∃ p, l = [p] ∧ p.2 = t := by
      cases l with
      | nil => simp at e
      | cons p l =>
        simp only [List.map_cons, List.cons.injEq, List.map_eq_nil_iff] at e
        exact ⟨p, by rw [e.2], e.1⟩
    rw [List.singleton_append, runD_step ok (fun q => (a.cl (e'.symm.trans q)).elim), e']
    unfold stepR
    rw [a.op, if_neg (by simp), if_neg a.cl, a.at_]
  | @quo w ts b _ ih =>
    intro R l l2 ok e
    cases l with
    | nil => simp at e
    | cons p l =>
      simp only [List.map_cons, List.cons.injEq] at e
      have n41 : qT b ≠ [41] := by cases b <;> decide
      have op : isOp (qT b) = true := by cases b <;> decide
      rw [List.cons_append, runD_step ok (fun q => (n41 (e.1.symm.trans q)).elim), e.1]
      unfold stepR
      rw [if_pos op, ih _ l l2 (okR_cons ok) e.2]
      cases b <;> simp [pushR, qT, qS]
  | @tup ws ts _ ih =>
    intro R l l2 ok e
    cases l with
    | nil => simp at e
    | cons p l =>
      simp only [List.map_cons, List.cons.injEq] at e
      obtain ⟨l1, l3, rfl, e1, e3⟩ := List.map_eq_append_iff.mp e.2
      obtain ⟨p3, rfl, e4⟩ : ∃ p, l3 = [p] ∧ p.2 = [41] := by
        cases l3 with
        | nil => simp at e3
        | cons p l =>
          simp only [List.map_cons, List.cons.injEq, List.map_eq_nil_iff] at e3
          exact ⟨p, by rw [e3.2], e3.1⟩
      rw [List.cons_append, runD_step ok (fun q => by rw [e.1] at q; cases q), e.1]
      have s1 : stepR R [40] = ([40], []) :: R := rfl
      rw [s1, List.append_assoc, ih R [] l1 _ ok e1, List.singleton_append, runD_step (okR_cons ok) (fun _ => rfl), e4]
      rfl
  | nil =>
    intro R acc l l2 ok e
    have : l = [] := by simpa using e
    subst this
    simp
  | @cons w ws t ts _ _ ih1 ih2 =>
    intro R acc l l2 ok e
    obtain ⟨l1, l3, rfl, e1, e3⟩ := List.map_eq_append_iff.mp e
    rw [List.append_assoc, ih1 _ l1 _ (okR_cons ok) e1]
    have : pushR (([40], acc) :: R) w = ([40], acc ++ [w]) :: R := by simp [pushR]
    rw [this, ih2 R _ l3 l2 ok e3]
    simp
theorem run_all {w : W} {l : List (Nat × Tok)} (h : Tk w (l.map (·.2))) : runD [([], [])] l = .ok [([], [w])] := by
  have := run_tk h [([], [])] l [] ⟨by simp, rfl⟩ rfl
  rw [List.append_nil] at this
  rw [this]
  rfl
/-! ### how many are open -/
def opn (t : Tok) : Nat := if isOp t = true then 1 else 0
def cnt : List Tok → Nat
  | [] => 0
  | t :: r => opn t + cnt r
theorem cnt_app : ∀ a b : List Tok, cnt (a ++ b) = cnt a + cnt b
  | [], b => by simp [cnt]
  | t :: a, b => by simp [cnt, cnt_app a b, Nat.add_assoc]
theorem cnt_tk {x : W ⊕ List W} {ts : List Tok} (h : TkX x ts) : cnt ts ≤ (match x with | .inl w => szW w | .inr ws => szs ws) ∧ ts.length ≤ 2 * (match x with | .inl w => szW w | .inr ws => szs ws) := by
  induction h with
  | @atom w t a =>
    have := szW_pos w
    simp only [cnt, opn, a.op]
    exact ⟨by simp, by simp; omega⟩
  | @quo w ts b _ ih =>
    have : opn (qT b) = 1 := by cases b <;> decide
    simp only [cnt, szW, szs, List.length_cons, this] at ih ⊢
    omega
  | @tup ws ts _ ih =>
    have h1 : opn [40] = 1 := by decide
    have h2 : opn [41] = 0 := by decide
    simp only [cnt, cnt_app, szW, List.length_cons, List.length_append, List.length_nil, h1, h2] at ih ⊢
    omega
  | nil => simp [cnt, szs]
  | @cons w ws t ts _ _ ih1 ih2 =>
    simp only [cnt_app, szs, List.length_append] at ih1 ih2 ⊢
    omega
def now1 (now : Int) (t : Tok) : Int := if t = [40] then now + 1 else if t = [41] then max 0 (now - 1) else now
def quo1 (t : Tok) : Int := if t ∈ [[39], [35, 39]] then 1 else 0
def shB : Int → Int → List Tok → Bool
  | _, _, [] => true
  | now, q, t :: r => if 200 < now1 now t ∨ 200 < q + quo1 t then false else shB (now1 now t) (q + quo1 t) r
theorem shB_cnt : ∀ (ts : List Tok) (now q : Int), 0 ≤ now → 0 ≤ q → now + cnt ts ≤ 200 → q + cnt ts ≤ 200 → shB now q ts = true
  | [], _, _, _, _, _, _ => rfl
  | t :: r, now, q, h0, h1, h2, h3 => by
    simp only [cnt] at h2 h3
    have a1 : 0 ≤ now1 now t ∧ now1 now t ≤ now + opn t := by
      unfold now1
      by_cases e : t = [40]
      · have : opn t = 1 := by rw [e]; decide
        rw [if_pos e]; omega
      · rw [if_neg e]
        split <;> omega
    have a2 : 0 ≤ quo1 t ∧ quo1 t ≤ opn t := by
      unfold quo1
      split
      · rename_i e
        have : opn t = 1 := by
          simp only [List.mem_cons, List.not_mem_nil, or_false] at e
          rcases e with rfl | rfl <;> decide
        omega
      · omega
    have := shB_cnt r (now1 now t) (q + quo1 t) (by omega) (by omega) (by omega) (by omega)
    unfold shB
    rw [if_neg (by omega)]
    exact this
theorem esc_app : ∀ a b : List Nat, esc (a ++ b) = esc a ++ esc b
  | [], b => rfl
  | c :: a, b => by simp only [List.cons_append, esc, esc_app a b, List.append_assoc]
theorem esc_len : ∀ a : List Nat, (esc a).length ≤ 2 * a.length
  | [] => Nat.le_refl _
  | c :: a => by
    have := esc_len a
    simp only [esc, List.length_append, List.length_cons]
    split <;> simp <;> omega
theorem atS_len {l : List Nat} (h : (wordB l || textB l) = true) : (atS l).length ≤ 900 := by
  rcases Bool.or_eq_true_iff.mp h with h | h
  · rw [word_at h]
    simp only [wordB, Bool.and_eq_true, decide_eq_true_eq] at h
    omega
  · obtain ⟨r, rfl, hr, _⟩ := textB_of h
    have := esc_len r
    show (34 :: (esc r ++ [34])).length ≤ 900
    simp
    omega
theorem intStr_len {i : Int} (h1 : -1000000000000 ≤ i) (h2 : i ≤ 1000000000000) : (intStr i).length ≤ 900 := by
  have := dg_len 12 i.natAbs (by omega)
  unfold intStr
  split <;> simp <;> omega
def lsum : List (List Nat) → Nat
  | [] => 0
  | x :: xs => x.length + lsum xs
theorem joinS_len : ∀ ns : List (List Nat), (joinS [32] ns).length ≤ lsum ns + ns.length
  | [] => Nat.le_refl _
  | [p] => by simp [joinS, lsum]
  | p :: q :: r => by
    have := joinS_len (q :: r)
    simp only [joinS, lsum, List.length_append, List.length_cons, List.length_nil] at this ⊢
    omega
theorem wrs_length : ∀ xs : List W, (wrs xs).length = xs.length
  | [] => rfl
  | x :: xs => by simp [wrs, wrs_length xs]
theorem wr_len : ∀ (n : Nat) (w : W), szW w ≤ n → gdW w = true → (wr w).length + 10 ≤ 1000 * szW w
  | 0, w, h, _ => by have := szW_pos w; omega
  | n + 1, w, h, hw => by
    have ihs : ∀ xs : List W, szs xs ≤ n → gds xs = true → lsum (wrs xs) + 10 * xs.length ≤ 1000 * szs xs := by
      intro xs
      induction xs with
      | nil => intro _ _; simp [wrs, lsum, szs]
      | cons x xs ih2 =>
        intro hs hg
        simp only [szs, gds, Bool.and_eq_true] at hs hg
        have a := wr_len n x (by omega) hg.1
        have b := ih2 (by omega) hg.2
        simp only [wrs, lsum, szs, List.length_cons]
        omega
    cases w with
    | int i =>
      have : (decide (-1000000000000 ≤ i) && decide (i ≤ 1000000000000)) = true := hw
      simp only [Bool.and_eq_true, decide_eq_true_eq] at this
      have := intStr_len this.1 this.2
      simp only [wr, szW]; omega
    | str l =>
      have := atS_len hw
      simp only [wr, szW]; omega
    | tup xs =>
      simp only [szW, gdW] at h hw ⊢
      have a := ihs xs (by omega) hw
      cases q : quoOf xs with
      | some b =>
        obtain ⟨x, rfl⟩ := quoOf_some q
        simp only [szs, gds, Bool.and_eq_true, szW] at h hw
        have := wr_len n x (by omega) hw.2.1
        have e : wr (.tup [.str (qS b), x]) = qT b ++ wr x := by simp [wr, q, wrs]
        have : (qT b).length ≤ 2 := by cases b <;> decide
        rw [e, List.length_append]
        simp only [szs, szW]
        omega
      | none =>
        cases xs with
        | nil =>
          have e : wr (.tup []) = nil3 := by simp [wr, quoOf]
          rw [e]
          have : nil3.length = 3 := rfl
          simp only [szs]; omega
        | cons x xs =>
          have e : wr (.tup (x :: xs)) = 40 :: (joinS [32] (wrs (x :: xs)) ++ [41]) := by simp [wr, q]
          have j := joinS_len (wrs (x :: xs))
          rw [wrs_length] at j
          rw [e]
          simp only [List.length_cons, List.length_append, List.length_nil] at a j ⊢
          omega
    | _ => cases hw
theorem soft_gd {w : W} (h : gdW w = true) : soft w = w := by cases w <;> first | rfl | cases h
theorem gds_mem : ∀ {xs : List W}, gds xs = true → ∀ x ∈ xs, gdW x = true
  | [], _, _, h => nomatch h
  | y :: ys, h, x, hx => by
    simp only [gds, Bool.and_eq_true] at h
    rcases List.mem_cons.mp hx with e | e
    · rw [e]; exact h.1
    · exact gds_mem h.2 x e
end Q1

set_option Elab.async false
set_option linter.all false
set_option autoImplicit false
set_option maxRecDepth 100000
set_option maxHeartbeats 4000000
namespace K02
open PySem G L2
def top (i : Nat) : Stmt := PySem.Challenge.pw_restartlisp_k02_whole_texts_that_are_ref.main.body.getD i (.Pass ⟨0, 0, 0, 0⟩)
def N_is_whole : List Str := ["value", "low", "high"]
def b_is_whole : G.S := (.seq (.rt (.and (.bi .isi (.cons (.var 0) (.cons (.k (.ty "int")) .nil))) (.and (.not (.bi .isi (.cons (.var 0) (.cons (.k (.ty "bool")) .nil)))) (.chain .le .le (.var 1) (.var 0) (.var 2))))) .nil)
def d_is_whole : DD := ⟨"is_whole", top 16, N_is_whole, ["value", "low", "high"], ⟨3, 3, b_is_whole⟩, false⟩
def N_is_made_of : List Str := ["text", "signs", "sign"]
def b_is_made_of : G.S := (.seq (.rt (.and (.cmp .ne (.var 0) (.k (.str []))) (.bi .all (.cons (.lc (.v 2) (.itr (.var 0)) .nil (.cmp .isin (.var 2) (.var 1)) [2]) .nil)))) .nil)
def d_is_made_of : DD := ⟨"is_made_of", top 17, N_is_made_of, ["text", "signs"], ⟨2, 3, b_is_made_of⟩, false⟩
def N_is_figures : List Str := ["text"]
def b_is_figures : G.S := (.seq (.rt (.call 1 (.cons (.ife (.cmp .isin (.sl (.var 0) .no (.itr (.k (.int 1)))) (.tup (.cons (.k (.str [43])) (.cons (.k (.str [45])) .nil)))) (.sl (.var 0) (.itr (.k (.int 1))) .no) (.var 0)) (.cons (.glob 5) .nil)))) .nil)
def d_is_figures : DD := ⟨"is_figures", top 18, N_is_figures, ["text"], ⟨1, 1, b_is_figures⟩, false⟩
def N_fits_word : List Str := ["value"]
def b_fits_word : G.S := (.seq (.ife (.or (.not (.bi .isi (.cons (.var 0) (.cons (.k (.ty "str")) .nil)))) (.not (.call 1 (.cons (.var 0) (.cons (.glob 6) .nil))))) (.seq (.rt (.k (.bl false))) .nil) .nil) (.seq (.rt (.and (.cmp .le (.bi .len (.cons (.var 0) .nil)) (.glob 3)) (.and (.cmp .ne (.var 0) (.k (.str [110, 105, 108]))) (.not (.call 2 (.cons (.var 0) .nil)))))) .nil))
def d_fits_word : DD := ⟨"fits_word", top 19, N_fits_word, ["value"], ⟨1, 1, b_fits_word⟩, false⟩
def N_fits_text : List Str := ["value", "sign"]
def b_fits_text : G.S := (.seq (.ife (.or (.not (.bi .isi (.cons (.var 0) (.cons (.k (.ty "str")) .nil)))) (.or (.cmp .ne (.sl (.var 0) .no (.itr (.k (.int 1)))) (.k (.str [34]))) (.cmp .gt (.bi .len (.cons (.var 0) .nil)) (.bin .add (.glob 4) (.k (.int 1)))))) (.seq (.rt (.k (.bl false))) .nil) .nil) (.seq (.rt (.bi .all (.cons (.lc (.v 1) (.itr (.sl (.var 0) (.itr (.k (.int 1))) .no)) .nil (.or (.cmp .eq (.var 1) (.k (.str [10]))) (.chain .le .le (.k (.str [32])) (.var 1) (.k (.str [126])))) [1]) .nil))) .nil))
def d_fits_text : DD := ⟨"fits_text", top 20, N_fits_text, ["value"], ⟨1, 2, b_fits_text⟩, false⟩
def N_is_atom : List Str := ["value"]
def b_is_atom : G.S := (.seq (.rt (.or (.call 0 (.cons (.var 0) (.cons (.neg (.glob 2)) (.cons (.glob 2) .nil)))) (.or (.call 3 (.cons (.var 0) .nil)) (.call 4 (.cons (.var 0) .nil))))) .nil)
def d_is_atom : DD := ⟨"is_atom", top 21, N_is_atom, ["value"], ⟨1, 1, b_is_atom⟩, false⟩
def N_measured : List Str := ["value", "line", "size", "deepest", "here", "depth", "item"]
def b_measured : G.S := (.seq (.par3 1 2 3 (.lst (.cons (.tup (.cons (.var 0) (.cons (.k (.int 1)) .nil))) .nil)) (.k (.int 0)) (.k (.int 0))) (.seq (.whl (.cmp .ne (.var 1) (.lst .nil)) (.seq (.asg (.cons (.cons (.v 4) (.cons (.v 5) .nil)) (.cons (.v 1) .nil)) (.tup (.cons (.ix (.var 1) (.neg (.k (.int 1)))) (.cons (.sl (.var 1) .no (.itr (.neg (.k (.int 1))))) .nil)))) (.seq (.par2 2 3 (.bin .add (.var 2) (.k (.int 1))) (.bi .max (.cons (.var 3) (.cons (.var 5) .nil)))) (.seq (.ife (.or (.cmp .gt (.var 2) (.glob 0)) (.or (.cmp .gt (.var 5) (.glob 1)) (.and (.not (.bi .isi (.cons (.var 4) (.cons (.k (.ty "tuple")) .nil)))) (.not (.call 5 (.cons (.var 4) .nil)))))) (.seq (.rt (.k .non)) .nil) .nil) (.seq (.ife (.bi .isi (.cons (.var 4) (.cons (.k (.ty "tuple")) .nil))) (.seq (.ife (.cmp .gt (.bi .len (.cons (.var 4) .nil)) (.glob 0)) (.seq (.rt (.k .non)) .nil) .nil) (.seq (.asg (.v 1) (.bin .add (.var 1) (.lc (.v 6) (.itr (.var 4)) .nil (.tup (.cons (.var 6) (.cons (.bin .add (.var 5) (.k (.int 1))) .nil))) [6]))) .nil)) .nil) .nil))))) (.seq (.rt (.tup (.cons (.var 2) (.cons (.var 3) .nil)))) .nil)))
def d_measured : DD := ⟨"measured", top 22, N_measured, ["value"], ⟨1, 7, b_measured⟩, false⟩
def N_need_datum : List Str := ["value"]
def b_need_datum : G.S := (.seq (.ife (.cmp .is (.call 6 (.cons (.var 0) .nil)) (.k .non)) (.seq (.raise 0 .nil) .nil) .nil) .nil)
def d_need_datum : DD := ⟨"need_datum", top 23, N_need_datum, ["value"], ⟨1, 1, b_need_datum⟩, false⟩
def N_text_written : List Str := ["datum", "found", "sign"]
def b_text_written : G.S := (.seq (.asg (.v 1) (.k (.str []))) (.seq (.forr (.v 2) (.itr (.sl (.var 0) (.itr (.k (.int 1))) .no)) (.seq (.asg (.v 1) (.bin .add (.var 1) (.ife (.cmp .isin (.var 2) (.k (.str [34, 92]))) (.bin .add (.k (.str [92])) (.var 2)) (.var 2)))) .nil)) (.seq (.rt (.bin .add (.bin .add (.k (.str [34])) (.var 1)) (.k (.str [34])))) .nil)))
def d_text_written : DD := ⟨"text_written", top 27, N_text_written, ["datum"], ⟨1, 3, b_text_written⟩, false⟩
def N_written : List Str := ["datum", "item"]
def b_written : G.S := (.seq (.ife (.bi .isi (.cons (.var 0) (.cons (.k (.ty "int")) .nil))) (.seq (.rt (.bi .str (.cons (.var 0) .nil))) .nil) .nil) (.seq (.ife (.bi .isi (.cons (.var 0) (.cons (.k (.ty "str")) .nil))) (.seq (.rt (.ife (.cmp .eq (.ix (.var 0) (.k (.int 0))) (.k (.str [34]))) (.call 8 (.cons (.var 0) .nil)) (.var 0))) .nil) .nil) (.seq (.ife (.cmp .eq (.var 0) (.tup .nil)) (.seq (.rt (.k (.str [110, 105, 108]))) .nil) .nil) (.seq (.ife (.and (.cmp .eq (.bi .len (.cons (.var 0) .nil)) (.k (.int 2))) (.cmp .isin (.ix (.var 0) (.k (.int 0))) (.tup (.cons (.k (.str [113, 117, 111, 116, 101])) (.cons (.k (.str [102, 117, 110, 99, 116, 105, 111, 110])) .nil))))) (.seq (.rt (.bin .add (.dix 0 (.ix (.var 0) (.k (.int 0)))) (.call 9 (.cons (.ix (.var 0) (.k (.int 1))) .nil)))) .nil) .nil) (.seq (.rt (.bin .add (.bin .add (.k (.str [40])) (.meth .join (.k (.str [32])) (.cons (.lc (.v 1) (.itr (.var 0)) .nil (.call 9 (.cons (.var 1) .nil)) [1]) .nil))) (.k (.str [41])))) .nil)))))
def d_written : DD := ⟨"written", top 28, N_written, ["datum"], ⟨1, 2, b_written⟩, false⟩
def N_end_of_text : List Str := ["text", "at", "end"]
def b_end_of_text : G.S := (.seq (.asg (.v 2) (.bin .add (.var 1) (.k (.int 1)))) (.seq (.whl (.and (.cmp .lt (.var 2) (.bi .len (.cons (.var 0) .nil))) (.cmp .ne (.ix (.var 0) (.var 2)) (.k (.str [34])))) (.seq (.asg (.v 2) (.bin .add (.var 2) (.ife (.cmp .eq (.ix (.var 0) (.var 2)) (.k (.str [92]))) (.k (.int 2)) (.k (.int 1))))) .nil)) (.seq (.ife (.cmp .ge (.var 2) (.bi .len (.cons (.var 0) .nil))) (.seq (.raiseF 1 (.bi .len (.cons (.var 0) .nil))) .nil) .nil) (.seq (.rt (.bin .add (.var 2) (.k (.int 1)))) .nil))))
def d_end_of_text : DD := ⟨"end_of_text", top 29, N_end_of_text, ["text", "at"], ⟨2, 3, b_end_of_text⟩, false⟩
def N_end_of_token : List Str := ["text", "at", "end"]
def b_end_of_token : G.S := (.seq (.ife (.cmp .eq (.ix (.var 0) (.var 1)) (.k (.str [34]))) (.seq (.rt (.call 10 (.cons (.var 0) (.cons (.var 1) .nil)))) .nil) .nil) (.seq (.ife (.cmp .eq (.sl (.var 0) (.itr (.var 1)) (.itr (.bin .add (.var 1) (.k (.int 2))))) (.k (.str [35, 39]))) (.seq (.rt (.bin .add (.var 1) (.k (.int 2)))) .nil) .nil) (.seq (.ife (.cmp .isin (.ix (.var 0) (.var 1)) (.k (.str [40, 41, 39, 32, 10]))) (.seq (.rt (.bin .add (.var 1) (.k (.int 1)))) .nil) .nil) (.seq (.asg (.v 2) (.var 1)) (.seq (.whl (.and (.cmp .lt (.var 2) (.bi .len (.cons (.var 0) .nil))) (.cmp .notin (.ix (.var 0) (.var 2)) (.k (.str [40, 41, 39, 34, 32, 10])))) (.seq (.asg (.v 2) (.bin .add (.var 2) (.k (.int 1)))) .nil)) (.seq (.rt (.var 2)) .nil))))))
def d_end_of_token : DD := ⟨"end_of_token", top 30, N_end_of_token, ["text", "at"], ⟨2, 3, b_end_of_token⟩, false⟩
def N_letters_of : List Str := ["token", "found", "is_behind", "sign"]
def b_letters_of : G.S := (.seq (.asg (.cons (.v 1) (.cons (.v 2) .nil)) (.tup (.cons (.k (.str [])) (.cons (.k (.bl false)) .nil)))) (.seq (.forr (.v 3) (.itr (.sl (.var 0) (.itr (.k (.int 1))) (.itr (.neg (.k (.int 1)))))) (.seq (.ife (.or (.and (.var 2) (.cmp .notin (.var 3) (.k (.str [34, 92])))) (.not (.or (.cmp .eq (.var 3) (.k (.str [10]))) (.chain .le .le (.k (.str [32])) (.var 3) (.k (.str [126])))))) (.seq (.rt (.k .non)) .nil) .nil) (.seq (.ife (.and (.cmp .eq (.var 3) (.k (.str [92]))) (.not (.var 2))) (.seq (.asg (.v 2) (.k (.bl true))) .nil) (.seq (.par2 1 2 (.bin .add (.var 1) (.var 3)) (.k (.bl false))) .nil)) .nil))) (.seq (.rt (.var 1)) .nil)))
def d_letters_of : DD := ⟨"letters_of", top 31, N_letters_of, ["token"], ⟨1, 4, b_letters_of⟩, false⟩
def N_fits_token : List Str := ["token"]
def b_fits_token : G.S := (.seq (.ife (.cmp .isin (.var 0) (.tup (.cons (.k (.str [40])) (.cons (.k (.str [41])) (.cons (.k (.str [39])) (.cons (.k (.str [35, 39])) .nil)))))) (.seq (.rt (.k (.bl true))) .nil) .nil) (.seq (.rt (.ife (.cmp .eq (.ix (.var 0) (.k (.int 0))) (.k (.str [34]))) (.cmp .isnot (.call 12 (.cons (.var 0) .nil)) (.k .non)) (.call 1 (.cons (.var 0) (.cons (.glob 6) .nil))))) .nil))
def d_fits_token : DD := ⟨"fits_token", top 32, N_fits_token, ["token"], ⟨1, 1, b_fits_token⟩, false⟩
def N_tokens_in : List Str := ["text", "found", "at", "end"]
def b_tokens_in : G.S := (.seq (.par2 1 2 (.lst .nil) (.k (.int 0))) (.seq (.whl (.cmp .lt (.var 2) (.bi .len (.cons (.var 0) .nil))) (.seq (.asg (.v 3) (.call 11 (.cons (.var 0) (.cons (.var 2) .nil)))) (.seq (.ife (.cmp .notin (.ix (.var 0) (.var 2)) (.k (.str [32, 10]))) (.seq (.ife (.not (.call 13 (.cons (.sl (.var 0) (.itr (.var 2)) (.itr (.var 3))) .nil))) (.seq (.raiseF 1 (.var 2)) .nil) .nil) (.seq (.asg (.v 1) (.bin .add (.var 1) (.lst (.cons (.tup (.cons (.var 2) (.cons (.sl (.var 0) (.itr (.var 2)) (.itr (.var 3))) .nil))) .nil)))) .nil)) .nil) (.seq (.asg (.v 2) (.var 3)) .nil)))) (.seq (.rt (.var 1)) .nil)))
def d_tokens_in : DD := ⟨"tokens_in", top 33, N_tokens_in, ["text"], ⟨1, 4, b_tokens_in⟩, false⟩
def N_integer_by : List Str := ["token", "figures", "number"]
def b_integer_by : G.S := (.seq (.asg (.v 1) (.meth .lstrip (.ife (.cmp .isin (.ix (.var 0) (.k (.int 0))) (.k (.str [43, 45]))) (.sl (.var 0) (.itr (.k (.int 1))) .no) (.var 0)) (.cons (.k (.str [48])) .nil))) (.seq (.asg (.v 2) (.ife (.cmp .lt (.bi .len (.cons (.var 1) .nil)) (.k (.int 15))) (.bi .int (.cons (.bin .add (.k (.str [48])) (.var 1)) .nil)) (.bin .pow (.k (.int 10)) (.k (.int 15))))) (.seq (.rt (.ife (.cmp .eq (.ix (.var 0) (.k (.int 0))) (.k (.str [45]))) (.neg (.var 2)) (.var 2))) .nil)))
def d_integer_by : DD := ⟨"integer_by", top 34, N_integer_by, ["token"], ⟨1, 3, b_integer_by⟩, false⟩
def N_atom_by : List Str := ["token"]
def b_atom_by : G.S := (.seq (.ife (.cmp .eq (.ix (.var 0) (.k (.int 0))) (.k (.str [34]))) (.seq (.rt (.bin .add (.k (.str [34])) (.call 12 (.cons (.var 0) .nil)))) .nil) .nil) (.seq (.ife (.cmp .eq (.var 0) (.k (.str [110, 105, 108]))) (.seq (.rt (.tup .nil)) .nil) .nil) (.seq (.rt (.ife (.call 2 (.cons (.var 0) .nil)) (.call 15 (.cons (.var 0) .nil)) (.var 0))) .nil)))
def d_atom_by : DD := ⟨"atom_by", top 35, N_atom_by, ["token"], ⟨1, 1, b_atom_by⟩, false⟩
def N_with_datum : List Str := ["line", "datum"]
def b_with_datum : G.S := (.seq (.whl (.cmp .isin (.ix (.ix (.var 0) (.neg (.k (.int 1)))) (.k (.int 0))) (.tup (.cons (.k (.str [39])) (.cons (.k (.str [35, 39])) .nil)))) (.seq (.asg (.v 1) (.tup (.cons (.ife (.cmp .eq (.ix (.ix (.var 0) (.neg (.k (.int 1)))) (.k (.int 0))) (.k (.str [39]))) (.k (.str [113, 117, 111, 116, 101])) (.k (.str [102, 117, 110, 99, 116, 105, 111, 110]))) (.cons (.var 1) .nil)))) (.seq (.asg (.v 0) (.sl (.var 0) .no (.itr (.neg (.k (.int 1)))))) .nil))) (.seq (.rt (.bin .add (.sl (.var 0) .no (.itr (.neg (.k (.int 1))))) (.lst (.cons (.tup (.cons (.ix (.ix (.var 0) (.neg (.k (.int 1)))) (.k (.int 0))) (.cons (.bin .add (.ix (.ix (.var 0) (.neg (.k (.int 1)))) (.k (.int 1))) (.tup (.cons (.var 1) .nil))) .nil))) .nil)))) .nil))
def d_with_datum : DD := ⟨"with_datum", top 36, N_with_datum, ["line", "datum"], ⟨2, 2, b_with_datum⟩, false⟩
def N_datum_by : List Str := ["tokens", "length", "line", "at", "token"]
def b_datum_by : G.S := (.seq (.asg (.v 2) (.lst (.cons (.tup (.cons (.k (.str [])) (.cons (.tup .nil) .nil))) .nil))) (.seq (.forr (.cons (.v 3) (.cons (.v 4) .nil)) (.itr (.var 0)) (.seq (.ife (.or (.cmp .ne (.ix (.ix (.var 2) (.k (.int 0))) (.k (.int 1))) (.tup .nil)) (.and (.cmp .eq (.var 4) (.k (.str [41]))) (.cmp .ne (.ix (.ix (.var 2) (.neg (.k (.int 1)))) (.k (.int 0))) (.k (.str [40]))))) (.seq (.raiseF 1 (.var 3)) .nil) .nil) (.seq (.ife (.cmp .isin (.var 4) (.tup (.cons (.k (.str [40])) (.cons (.k (.str [39])) (.cons (.k (.str [35, 39])) .nil))))) (.seq (.asg (.v 2) (.bin .add (.var 2) (.lst (.cons (.tup (.cons (.var 4) (.cons (.tup .nil) .nil))) .nil)))) .nil) (.seq (.ife (.cmp .eq (.var 4) (.k (.str [41]))) (.seq (.asg (.v 2) (.call 17 (.cons (.sl (.var 2) .no (.itr (.neg (.k (.int 1))))) (.cons (.ix (.ix (.var 2) (.neg (.k (.int 1)))) (.k (.int 1))) .nil)))) .nil) (.seq (.asg (.v 2) (.call 17 (.cons (.var 2) (.cons (.call 16 (.cons (.var 4) .nil)) .nil)))) .nil)) .nil)) .nil))) (.seq (.ife (.cmp .eq (.ix (.ix (.var 2) (.k (.int 0))) (.k (.int 1))) (.tup .nil)) (.seq (.raiseF 1 (.var 1)) .nil) .nil) (.seq (.rt (.ix (.ix (.ix (.var 2) (.k (.int 0))) (.k (.int 1))) (.k (.int 0)))) .nil))))
def d_datum_by : DD := ⟨"datum_by", top 37, N_datum_by, ["tokens", "length"], ⟨2, 5, b_datum_by⟩, false⟩
def N_need_shallow : List Str := ["tokens", "now", "quotes", "at", "token"]
def b_need_shallow : G.S := (.seq (.asg (.cons (.v 1) (.cons (.v 2) .nil)) (.tup (.cons (.k (.int 0)) (.cons (.k (.int 0)) .nil)))) (.seq (.forr (.cons (.v 3) (.cons (.v 4) .nil)) (.itr (.var 0)) (.seq (.asg (.v 1) (.ife (.cmp .eq (.var 4) (.k (.str [40]))) (.bin .add (.var 1) (.k (.int 1))) (.ife (.cmp .eq (.var 4) (.k (.str [41]))) (.bi .max (.cons (.k (.int 0)) (.cons (.bin .sub (.var 1) (.k (.int 1))) .nil))) (.var 1)))) (.seq (.asg (.v 2) (.bin .add (.var 2) (.bi .int (.cons (.cmp .isin (.var 4) (.tup (.cons (.k (.str [39])) (.cons (.k (.str [35, 39])) .nil)))) .nil)))) (.seq (.ife (.or (.cmp .gt (.var 1) (.glob 7)) (.cmp .gt (.var 2) (.glob 7))) (.seq (.raise 0 .nil) .nil) .nil) .nil)))) .nil))
def d_need_shallow : DD := ⟨"need_shallow", top 38, N_need_shallow, ["tokens"], ⟨1, 5, b_need_shallow⟩, false⟩
def N_need_string : List Str := ["value"]
def b_need_string : G.S := (.seq (.ife (.not (.bi .isi (.cons (.var 0) (.cons (.k (.ty "str")) .nil)))) (.seq (.raiseF 1 (.k (.int 0))) .nil) .nil) .nil)
def d_need_string : DD := ⟨"need_string", top 39, N_need_string, ["value"], ⟨1, 1, b_need_string⟩, false⟩
def N_datum_text : List Str := ["datum"]
def b_datum_text : G.S := (.seq (.expr (.call 7 (.cons (.var 0) .nil))) (.seq (.rt (.call 9 (.cons (.var 0) .nil))) .nil))
def d_datum_text : DD := ⟨"datum_text", top 40, N_datum_text, ["datum"], ⟨1, 1, b_datum_text⟩, false⟩
def N_tokens_of : List Str := ["text"]
def b_tokens_of : G.S := (.seq (.expr (.call 20 (.cons (.var 0) .nil))) (.seq (.rt (.call 14 (.cons (.var 0) .nil))) .nil))
def d_tokens_of : DD := ⟨"tokens_of", top 41, N_tokens_of, ["text"], ⟨1, 1, b_tokens_of⟩, false⟩
def N_read_datum : List Str := ["text", "tokens", "datum"]
def b_read_datum : G.S := (.seq (.expr (.call 20 (.cons (.var 0) .nil))) (.seq (.asg (.v 1) (.call 14 (.cons (.var 0) .nil))) (.seq (.expr (.call 19 (.cons (.var 1) .nil))) (.seq (.asg (.v 2) (.call 18 (.cons (.var 1) (.cons (.bi .len (.cons (.var 0) .nil)) .nil)))) (.seq (.ife (.cmp .is (.call 6 (.cons (.var 2) .nil)) (.k .non)) (.seq (.raise 0 .nil) .nil) .nil) (.seq (.rt (.var 2)) .nil))))))
def d_read_datum : DD := ⟨"read_datum", top 42, N_read_datum, ["text"], ⟨1, 3, b_read_datum⟩, false⟩
def N__law_cup : List Str := ["_law_script", "_law_cell"]
def b__law_cup : G.S := (.seq (.asg (.v 1) (.bi .abs (.cons (.ix (.bin .add (.bi .list (.cons (.var 0) .nil)) (.lst (.cons (.k (.int 0)) .nil))) (.k (.int 0))) .nil))) (.seq (.rt (.mlst (.cons (.ife (.cmp .ge (.var 1) (.bin .pow (.k (.int 10)) (.k (.int 18)))) (.bin .fdiv (.var 1) (.k (.int 11))) (.k (.int 0))) (.cons (.bin .add (.bin .mod (.bi .int (.cons (.bin .add (.bin .mul (.var 1) (.k (.int 193))) (.k (.int 1201))) .nil)) (.k (.int 2077504273))) (.k (.int 89))) .nil)))) .nil))
def d__law_cup : DD := ⟨"_law_cup", top 44, N__law_cup, ["_law_script"], ⟨1, 2, b__law_cup⟩, false⟩
def N__law_roll : List Str := ["_law_cup_here", "_law_many", "_law_found", "_law_deep"]
def b__law_roll : G.S := (.seq (.ife (.cmp .gt (.ix (.var 0) (.k (.int 0))) (.k (.int 0))) (.seq (.asg (.v 2) (.bin .mod (.bi .int (.cons (.ix (.var 0) (.k (.int 0))) .nil)) (.var 1))) (.seq (.seti (.var 0) (.k (.int 0)) (.bin .fdiv (.ix (.var 0) (.k (.int 0))) (.var 1))) (.seq (.rt (.var 2)) .nil))) .nil) (.seq (.seti (.var 0) (.k (.int 1)) (.bin .mod (.bi .int (.cons (.bin .add (.bin .mul (.ix (.var 0) (.k (.int 1))) (.k (.int 30671))) (.k (.int 7919))) .nil)) (.k (.int 2147483549)))) (.seq (.asg (.v 3) (.bin .mod (.bi .int (.cons (.bin .mul (.ix (.var 0) (.k (.int 1))) (.bin .add (.ix (.var 0) (.k (.int 1))) (.k (.int 131)))) .nil)) (.k (.int 2147483587)))) (.seq (.rt (.bin .mod (.bi .int (.cons (.bin .fdiv (.var 3) (.k (.int 709))) .nil)) (.var 1))) .nil))))
def d__law_roll : DD := ⟨"_law_roll", top 45, N__law_roll, ["_law_cup_here", "_law_many"], ⟨2, 4, b__law_roll⟩, false⟩
def N__law_some : List Str := ["_law_cup_here", "_law_things"]
def b__law_some : G.S := (.seq (.rt (.ix (.var 1) (.call 25 (.cons (.var 0) (.cons (.bi .len (.cons (.var 1) .nil)) .nil))))) .nil)
def d__law_some : DD := ⟨"_law_some", top 46, N__law_some, ["_law_cup_here", "_law_things"], ⟨2, 2, b__law_some⟩, false⟩
def N__law_word : List Str := ["_law_cup_here", "_law_found", "_law_turn"]
def b__law_word : G.S := (.seq (.asg (.v 1) (.k (.str []))) (.seq (.forr (.v 2) (.rng (.cons (.bin .add (.k (.int 1)) (.call 25 (.cons (.var 0) (.cons (.k (.int 6)) .nil)))) .nil)) (.seq (.asg (.v 1) (.bin .add (.var 1) (.call 26 (.cons (.var 0) (.cons (.k (.str [97, 98, 99, 100, 101, 102, 103, 104, 105, 106, 107, 108, 109, 110, 111, 112, 113, 114, 115, 116, 117, 118, 119, 120, 121, 122, 48, 49, 50, 51, 52, 53, 54, 55, 56, 57, 45, 42, 43, 47, 60, 62, 61, 33, 63, 38, 58, 97, 98, 48, 49])) .nil))))) .nil)) (.seq (.rt (.call 26 (.cons (.var 0) (.cons (.lst (.cons (.bin .add (.sl (.var 1) .no (.itr (.neg (.k (.int 1))))) (.k (.str [120]))) (.cons (.bin .add (.sl (.var 1) .no (.itr (.neg (.k (.int 1))))) (.k (.str [120]))) (.cons (.bin .add (.bin .add (.k (.str [42])) (.var 1)) (.k (.str [42]))) (.cons (.k (.str [116])) (.cons (.k (.str [43])) (.cons (.k (.str [113, 117, 111, 116, 101])) (.cons (.k (.str [102, 117, 110, 99, 116, 105, 111, 110])) (.cons (.k (.str [97, 45, 98])) .nil))))))))) .nil)))) .nil)))
def d__law_word : DD := ⟨"_law_word", top 47, N__law_word, ["_law_cup_here"], ⟨1, 3, b__law_word⟩, false⟩
def N__law_text : List Str := ["_law_cup_here", "_law_found", "_law_turn"]
def b__law_text : G.S := (.seq (.asg (.v 1) (.k (.str []))) (.seq (.forr (.v 2) (.rng (.cons (.call 25 (.cons (.var 0) (.cons (.k (.int 5)) .nil))) .nil)) (.seq (.asg (.v 1) (.bin .add (.var 1) (.call 26 (.cons (.var 0) (.cons (.lst (.cons (.k (.str [97])) (.cons (.k (.str [32])) (.cons (.k (.str [34])) (.cons (.k (.str [92])) (.cons (.k (.str [40])) (.cons (.k (.str [39])) (.cons (.k (.str [10])) (.cons (.k (.str [126])) (.cons (.k (.str [90])) (.cons (.k (.str [57])) (.cons (.k (.str [35, 39])) .nil)))))))))))) .nil))))) .nil)) (.seq (.rt (.bin .add (.k (.str [34])) (.var 1))) .nil)))
def d__law_text : DD := ⟨"_law_text", top 48, N__law_text, ["_law_cup_here"], ⟨1, 3, b__law_text⟩, false⟩
def N__law_datum : List Str := ["_law_cup_here", "_law_deep", "_law_way", "_law_turn"]
def b__law_datum : G.S := (.seq (.asg (.v 2) (.call 25 (.cons (.var 0) (.cons (.ife (.cmp .gt (.var 1) (.k (.int 0))) (.k (.int 9)) (.k (.int 5))) .nil)))) (.seq (.ife (.cmp .lt (.var 2) (.k (.int 2))) (.seq (.rt (.call 26 (.cons (.var 0) (.cons (.lst (.cons (.call 25 (.cons (.var 0) (.cons (.k (.int 10)) .nil))) (.cons (.bin .sub (.k (.int 0)) (.call 25 (.cons (.var 0) (.cons (.k (.int 2000)) .nil)))) (.cons (.bin .pow (.k (.int 10)) (.k (.int 12))) (.cons (.bin .sub (.k (.int 0)) (.bin .pow (.k (.int 10)) (.k (.int 12)))) (.cons (.call 25 (.cons (.var 0) (.cons (.bin .pow (.k (.int 10)) (.k (.int 12))) .nil))) .nil)))))) .nil)))) .nil) .nil) (.seq (.ife (.cmp .lt (.var 2) (.k (.int 4))) (.seq (.rt (.ife (.cmp .eq (.call 25 (.cons (.var 0) (.cons (.k (.int 3)) .nil))) (.k (.int 0))) (.call 28 (.cons (.var 0) .nil)) (.call 27 (.cons (.var 0) .nil)))) .nil) .nil) (.seq (.ife (.cmp .eq (.var 2) (.k (.int 4))) (.seq (.rt (.tup .nil)) .nil) .nil) (.seq (.ife (.cmp .eq (.var 2) (.k (.int 5))) (.seq (.rt (.tup (.cons (.call 26 (.cons (.var 0) (.cons (.lst (.cons (.k (.str [113, 117, 111, 116, 101])) (.cons (.k (.str [102, 117, 110, 99, 116, 105, 111, 110])) .nil))) .nil))) (.cons (.call 29 (.cons (.var 0) (.cons (.bin .sub (.var 1) (.k (.int 1))) .nil))) .nil)))) .nil) .nil) (.seq (.rt (.bi .tuple (.cons (.lc (.v 3) (.rng (.cons (.call 25 (.cons (.var 0) (.cons (.k (.int 5)) .nil))) .nil)) .nil (.call 29 (.cons (.var 0) (.cons (.bin .sub (.var 1) (.k (.int 1))) .nil))) [3]) .nil))) .nil))))))
def d__law_datum : DD := ⟨"_law_datum", top 49, N__law_datum, ["_law_cup_here", "_law_deep"], ⟨2, 4, b__law_datum⟩, false⟩
def N_law : List Str := ["_law_script", "_law_cup_here", "_law_datum_here", "_law_text_here", "_law_places", "_law_gap", "_law_more", "_law_at", "_law_cases", "_law_bad", "_law_odd", "_law_words", "_law_pairs", "_law_datums", "_law_good", "_law_first", "_law_odds", "_law_token", "_law_due"]
def b_law : G.S := (.seq (.asg (.v 1) (.call 24 (.cons (.var 0) .nil))) (.seq (.asg (.v 2) (.tup (.cons (.call 27 (.cons (.var 1) .nil)) (.cons (.call 29 (.cons (.var 1) (.cons (.bin .add (.k (.int 1)) (.call 25 (.cons (.var 1) (.cons (.k (.int 3)) .nil)))) .nil))) (.cons (.call 29 (.cons (.var 1) (.cons (.k (.int 1)) .nil))) .nil))))) (.seq (.asg (.v 3) (.call 21 (.cons (.var 2) .nil))) (.seq (.asg (.v 4) (.lc (.cons (.v 7) (.cons (.v 17) .nil)) (.itr (.call 22 (.cons (.var 3) .nil))) .nil (.var 7) [7, 17])) (.seq (.par2 5 6 (.call 26 (.cons (.var 1) (.cons (.lst (.cons (.k (.str [])) (.cons (.k (.str [32])) (.cons (.k (.str [10, 32])) .nil)))) .nil))) (.call 26 (.cons (.var 1) (.cons (.lst (.cons (.k (.str [97])) (.cons (.k (.str [40])) (.cons (.k (.str [41])) (.cons (.k (.str [39])) (.cons (.k (.str [35, 39])) (.cons (.k (.str [34, 120, 34])) (.cons (.k (.str [53])) (.cons (.k (.str [110, 105, 108])) .nil))))))))) .nil)))) (.seq (.ife (.and (.cmp .ne (.ix (.var 3) (.k (.int 0))) (.k (.str [40]))) (.and (.cmp .notin (.var 6) (.k (.str [40, 41, 39]))) (.cmp .notin (.ix (.var 6) (.k (.int 0))) (.k (.str [35, 34]))))) (.seq (.asg (.v 5) (.k (.str [32]))) .nil) .nil) (.seq (.asg (.v 7) (.ix (.var 4) (.bin .add (.k (.int 1)) (.call 25 (.cons (.var 1) (.cons (.bin .sub (.bi .len (.cons (.var 4) .nil)) (.k (.int 1))) .nil)))))) (.seq (.asg (.v 8) (.mlst (.cons (.tup (.cons (.bin .add (.bin .add (.bin .add (.var 3) (.var 5)) (.k (.str [32]))) (.var 6)) (.cons (.bin .add (.bi .len (.cons (.bin .add (.var 3) (.var 5)) .nil)) (.k (.int 1))) .nil))) (.cons (.tup (.cons (.bin .add (.bin .add (.k (.str [41])) (.var 5)) (.var 3)) (.cons (.k (.int 0)) .nil))) (.cons (.tup (.cons (.sl (.var 3) .no (.itr (.var 7))) (.cons (.var 7) .nil))) (.cons (.tup (.cons (.bin .add (.sl (.var 3) .no (.itr (.var 7))) (.k (.str [39, 32, 41]))) (.cons (.bin .add (.var 7) (.k (.int 2))) .nil))) .nil)))))) (.seq (.asg (.v 9) (.call 26 (.cons (.var 1) (.cons (.lst (.cons (.k (.str [65])) (.cons (.k (.str [35])) (.cons (.k (.str [97, 46, 98])) (.cons (.k (.str [35, 97])) (.cons (.k (.str [123])) (.cons (.k (.str [57, 95])) .nil))))))) .nil)))) (.seq (.expr (.meth .append (.var 8) (.cons (.tup (.cons (.bin .add (.bin .add (.bin .add (.bin .add (.sl (.var 3) .no (.itr (.var 7))) (.k (.str [32]))) (.var 9)) (.k (.str [32]))) (.sl (.var 3) (.itr (.var 7)) .no)) (.cons (.bin .add (.var 7) (.k (.int 1))) .nil))) .nil))) (.seq (.expr (.meth .append (.var 8) (.cons (.tup (.cons (.bin .add (.bin .add (.sl (.var 3) .no (.itr (.var 7))) (.k (.str [32, 34, 97, 92, 98, 34, 32]))) (.sl (.var 3) (.itr (.var 7)) .no)) (.cons (.bin .add (.var 7) (.k (.int 1))) .nil))) .nil))) (.seq (.expr (.meth .append (.var 8) (.cons (.tup (.cons (.bin .add (.bin .add (.sl (.var 3) .no (.itr (.var 7))) (.k (.str [32, 34]))) (.call 26 (.cons (.var 1) (.cons (.lst (.cons (.k (.str [])) (.cons (.k (.str [97])) (.cons (.k (.str [92])) .nil)))) .nil)))) (.cons (.k (.int 0)) .nil))) .nil))) (.seq (.seti (.var 8) (.neg (.k (.int 1))) (.tup (.cons (.ix (.ix (.var 8) (.neg (.k (.int 1)))) (.k (.int 0))) (.cons (.bi .len (.cons (.ix (.ix (.var 8) (.neg (.k (.int 1)))) (.k (.int 0))) .nil)) .nil)))) (.seq (.ife (.and (.cmp .eq (.sl (.var 3) .no (.itr (.k (.int 1)))) (.k (.str [40]))) (.cmp .ne (.lc (.cons (.v 10) (.cons (.v 18) .nil)) (.itr (.var 8)) (.cons (.cmp .ne (.clo 0 (.call 23 (.cons (.var 10) .nil))) (.bin .add (.k (.str [116, 101, 120, 116, 32])) (.bi .str (.cons (.var 18) .nil)))) .nil) (.k (.int 1)) [10, 18]) (.lst .nil))) (.seq (.rt (.k (.bl false))) .nil) .nil) (.seq (.forr (.v 10) (.itr (.tup (.cons (.k .non) (.cons (.k (.int 5)) (.cons (.lst (.cons (.k (.str [120])) .nil)) (.cons (.tup (.cons (.k (.str [97])) .nil)) .nil)))))) (.seq (.asg (.v 11) (.mlst (.cons (.clo 0 (.call 23 (.cons (.var 10) .nil))) .nil))) (.seq (.expr (.meth .append (.var 11) (.cons (.clo 0 (.call 22 (.cons (.var 10) .nil))) .nil))) (.seq (.ife (.cmp .ne (.var 11) (.bin .mul (.lst (.cons (.k (.str [116, 101, 120, 116, 32, 48])) .nil)) (.k (.int 2)))) (.seq (.rt (.k (.bl false))) .nil) .nil) .nil)))) (.seq (.asg (.v 12) (.lst (.cons (.tup (.cons (.k (.str [])) (.cons (.k (.int 0)) .nil))) (.cons (.tup (.cons (.k (.str [32, 32])) (.cons (.k (.int 2)) .nil))) (.cons (.tup (.cons (.k (.str [41])) (.cons (.k (.int 0)) .nil))) (.cons (.tup (.cons (.k (.str [40])) (.cons (.k (.int 1)) .nil))) (.cons (.tup (.cons (.k (.str [97, 32, 98])) (.cons (.k (.int 2)) .nil))) (.cons (.tup (.cons (.k (.str [39])) (.cons (.k (.int 1)) .nil))) (.cons (.tup (.cons (.k (.str [39, 41])) (.cons (.k (.int 1)) .nil))) (.cons (.tup (.cons (.k (.str [40, 97])) (.cons (.k (.int 2)) .nil))) (.cons (.tup (.cons (.k (.str [40, 41, 40, 41])) (.cons (.k (.int 2)) .nil))) (.cons (.tup (.cons (.k (.str [40, 97, 32, 39, 41])) (.cons (.k (.int 4)) .nil))) (.cons (.tup (.cons (.k (.str [39, 97, 39, 98])) (.cons (.k (.int 2)) .nil))) (.cons (.tup (.cons (.k (.str [35, 39, 32])) (.cons (.k (.int 3)) .nil))) .nil)))))))))))))) (.seq (.asg (.v 12) (.bin .add (.var 12) (.lst (.cons (.tup (.cons (.k (.str [34])) (.cons (.k (.int 1)) .nil))) (.cons (.tup (.cons (.k (.str [34, 97, 92])) (.cons (.k (.int 3)) .nil))) (.cons (.tup (.cons (.k (.str [34, 97, 92, 34])) (.cons (.k (.int 4)) .nil))) (.cons (.tup (.cons (.k (.str [40, 34, 97, 92, 110, 34, 41])) (.cons (.k (.int 1)) .nil))) (.cons (.tup (.cons (.k (.str [40, 65])) (.cons (.k (.int 1)) .nil))) (.cons (.tup (.cons (.k (.str [35, 32, 39, 97])) (.cons (.k (.int 0)) .nil))) (.cons (.tup (.cons (.k (.str [97, 35])) (.cons (.k (.int 0)) .nil))) (.cons (.tup (.cons (.k (.str [40, 97, 41, 41])) (.cons (.k (.int 3)) .nil))) (.cons (.tup (.cons (.k (.str [97, 32, 46, 32, 98])) (.cons (.k (.int 2)) .nil))) (.cons (.tup (.cons (.k (.str [39, 40, 97, 41, 32, 39, 98])) (.cons (.k (.int 5)) .nil))) .nil))))))))))))) (.seq (.ife (.cmp .ne (.lc (.cons (.v 3) (.cons (.v 7) .nil)) (.itr (.var 12)) (.cons (.cmp .ne (.clo 0 (.call 23 (.cons (.var 3) .nil))) (.bin .add (.k (.str [116, 101, 120, 116, 32])) (.bi .str (.cons (.var 7) .nil)))) .nil) (.var 3) [3, 7]) (.lst .nil)) (.seq (.rt (.k (.bl false))) .nil) .nil) (.seq (.asg (.v 13) (.mlst (.cons (.k (.str [49, 48, 48, 48, 48, 48, 48, 48, 48, 48, 48, 48, 49])) (.cons (.k (.str [45, 49, 48, 48, 48, 48, 48, 48, 48, 48, 48, 48, 48, 49])) (.cons (.bin .mul (.k (.str [57])) (.k (.int 200))) (.cons (.bin .mul (.k (.str [120])) (.k (.int 21))) (.cons (.bin .add (.bin .add (.k (.str [34])) (.bin .mul (.k (.str [97])) (.k (.int 401)))) (.k (.str [34]))) (.cons (.bin .add (.bin .add (.bin .mul (.k (.str [40])) (.k (.int 60))) (.bin .mul (.k (.str [41])) (.k (.int 61)))) (.k (.str [40]))) (.cons (.bin .add (.bin .mul (.k (.str [39])) (.k (.int 201))) (.k (.str [97]))) (.cons (.bin .mul (.k (.str [40])) (.k (.int 201))) (.cons (.bin .add (.bin .mul (.k (.str [40])) (.k (.int 61))) (.bin .mul (.k (.str [41])) (.k (.int 61)))) .nil))))))))))) (.seq (.seti (.var 13) (.k (.int 5)) (.bin .add (.bin .add (.bin .mul (.k (.str [40])) (.k (.int 60))) (.k (.str [97]))) (.bin .mul (.k (.str [41])) (.k (.int 60))))) (.seq (.asg (.v 13) (.bin .add (.var 13) (.mlst (.cons (.bin .add (.bin .mul (.k (.str [39])) (.k (.int 60))) (.k (.str [97]))) (.cons (.bin .add (.bin .add (.k (.str [40])) (.bin .mul (.k (.str [49, 32])) (.k (.int 1000)))) (.k (.str [41]))) (.cons (.bin .add (.bin .mul (.k (.str [40])) (.k (.int 201))) (.k (.str [41, 41, 41, 32, 97]))) (.cons (.bin .mul (.k (.str [35, 39])) (.k (.int 201))) .nil))))))) (.seq (.ife (.cmp .ne (.lc (.v 3) (.itr (.var 13)) (.cons (.cmp .ne (.clo 0 (.call 23 (.cons (.var 3) .nil))) (.k (.str [100, 97, 116, 117, 109]))) .nil) (.var 3) [3]) (.lst .nil)) (.seq (.rt (.k (.bl false))) .nil) .nil) (.seq (.asg (.v 14) (.lst (.cons (.bin .add (.bin .mul (.k (.str [40])) (.k (.int 60))) (.bin .mul (.k (.str [41])) (.k (.int 60)))) (.cons (.k (.str [49, 48, 48, 48, 48, 48, 48, 48, 48, 48, 48, 48, 48])) (.cons (.bin .mul (.k (.str [120])) (.k (.int 20))) (.cons (.bin .add (.bin .add (.k (.str [40])) (.bin .mul (.k (.str [49, 32])) (.k (.int 999)))) (.k (.str [41]))) (.cons (.bin .add (.bin .add (.k (.str [34])) (.bin .mul (.k (.str [97])) (.k (.int 400)))) (.k (.str [34]))) (.cons (.bin .add (.bin .mul (.k (.str [39])) (.k (.int 59))) (.k (.str [97]))) (.cons (.bin .add (.bin .mul (.k (.str [48])) (.k (.int 300))) (.k (.str [55]))) .nil))))))))) (.seq (.ife (.cmp .ne (.lc (.v 3) (.itr (.var 14)) (.cons (.cmp .ne (.clo 0 (.call 23 (.cons (.var 3) .nil))) (.k (.str []))) .nil) (.var 3) [3]) (.lst .nil)) (.seq (.rt (.k (.bl false))) .nil) .nil) (.seq (.asg (.v 15) (.mlst (.cons (.clo 0 (.call 23 (.cons (.bin .add (.bin .mul (.k (.str [40])) (.k (.int 201))) (.k (.str [65]))) .nil))) .nil))) (.seq (.expr (.meth .append (.var 15) (.cons (.clo 0 (.call 23 (.cons (.bin .add (.k (.str [41, 32])) (.bin .mul (.k (.str [120])) (.k (.int 21)))) .nil))) .nil))) (.seq (.asg (.v 16) (.lst (.cons (.k .non) (.cons (.lst (.cons (.k (.int 1)) .nil)) (.cons (.k (.str [110, 105, 108])) (.cons (.tup (.cons (.k (.str [97])) (.cons (.k .non) .nil))) (.cons (.bin .add (.bin .pow (.k (.int 10)) (.k (.int 12))) (.k (.int 1))) (.cons (.k (.bl true)) .nil)))))))) (.seq (.rt (.and (.cmp .eq (.var 15) (.lst (.cons (.k (.str [116, 101, 120, 116, 32, 50, 48, 49])) (.cons (.k (.str [116, 101, 120, 116, 32, 48])) .nil)))) (.cmp .eq (.lc (.v 10) (.itr (.var 16)) (.cons (.cmp .ne (.clo 0 (.call 21 (.cons (.var 10) .nil))) (.k (.str [100, 97, 116, 117, 109]))) .nil) (.var 10) [10]) (.lst .nil)))) .nil))))))))))))))))))))))))))))
def d_law : DD := ⟨"law", top 52, N_law, ["_law_script"], ⟨1, 19, b_law⟩, true⟩
def t__law_error : TD := ⟨"_law_error", top 51, [some (.txt [100, 97, 116, 117, 109]), some (.pre [116, 101, 120, 116, 32])]⟩
def pk : Pk := { ds := [d_is_whole, d_is_made_of, d_is_figures, d_fits_word, d_fits_text, d_is_atom, d_measured, d_need_datum, d_text_written, d_written, d_end_of_text, d_end_of_token, d_letters_of, d_fits_token, d_tokens_in, d_integer_by, d_atom_by, d_with_datum, d_datum_by, d_need_shallow, d_need_string, d_datum_text, d_tokens_of, d_read_datum, d__law_cup, d__law_roll, d__law_some, d__law_word, d__law_text, d__law_datum, d_law], tls := [t__law_error], cs := [("SIZE", .int 1000), ("DEPTH", .int 60), ("GREATEST", .int 1000000000000), ("LONGEST", .int 20), ("TEXT", .int 400), ("FIGURES", .str [48, 49, 50, 51, 52, 53, 54, 55, 56, 57]), ("SIGNS", .str [97, 98, 99, 100, 101, 102, 103, 104, 105, 106, 107, 108, 109, 110, 111, 112, 113, 114, 115, 116, 117, 118, 119, 120, 121, 122, 48, 49, 50, 51, 52, 53, 54, 55, 56, 57, 45, 42, 43, 47, 60, 62, 61, 33, 63, 38, 58]), ("OPEN", .int 200)], xs := [("InvalidDatum", none), ("InvalidText", some "at")], hs := ["InvalidDatum", "InvalidText"], exms := [("InvalidDatum", "InvalidDatum", true), ("InvalidText", "InvalidDatum", false), ("InvalidText", "InvalidText", true)], fuel := 1000000, lam := some "law", tbs := [("HEADS", [([113, 117, 111, 116, 101], (.str [39])), ([102, 117, 110, 99, 116, 105, 111, 110], (.str [35, 39]))])] }
theorem c_is_whole : DChk pk d_is_whole := ⟨C8.fnScope_by (by decide +kernel), rfl, rfl, fun _ _ _ _ _ _ us h => match us, h with | [_, _, _], _ => rfl, by decide +kernel⟩
theorem c_is_made_of : DChk pk d_is_made_of := ⟨C8.fnScope_by (by decide +kernel), rfl, rfl, fun _ _ _ _ _ _ us h => match us, h with | [_, _], _ => rfl, by decide +kernel⟩
theorem c_is_figures : DChk pk d_is_figures := ⟨C8.fnScope_by (by decide +kernel), rfl, rfl, fun _ _ _ _ _ _ us h => match us, h with | [_], _ => rfl, by decide +kernel⟩
theorem c_fits_word : DChk pk d_fits_word := ⟨C8.fnScope_by (by decide +kernel), rfl, rfl, fun _ _ _ _ _ _ us h => match us, h with | [_], _ => rfl, by decide +kernel⟩
theorem c_fits_text : DChk pk d_fits_text := ⟨C8.fnScope_by (by decide +kernel), rfl, rfl, fun _ _ _ _ _ _ us h => match us, h with | [_], _ => rfl, by decide +kernel⟩
theorem c_is_atom : DChk pk d_is_atom := ⟨C8.fnScope_by (by decide +kernel), rfl, rfl, fun _ _ _ _ _ _ us h => match us, h with | [_], _ => rfl, by decide +kernel⟩
theorem c_measured : DChk pk d_measured := ⟨C8.fnScope_by (by decide +kernel), rfl, rfl, fun _ _ _ _ _ _ us h => match us, h with | [_], _ => rfl, by decide +kernel⟩
theorem c_need_datum : DChk pk d_need_datum := ⟨C8.fnScope_by (by decide +kernel), rfl, rfl, fun _ _ _ _ _ _ us h => match us, h with | [_], _ => rfl, by decide +kernel⟩
theorem c_text_written : DChk pk d_text_written := ⟨C8.fnScope_by (by decide +kernel), rfl, rfl, fun _ _ _ _ _ _ us h => match us, h with | [_], _ => rfl, by decide +kernel⟩
theorem c_written : DChk pk d_written := ⟨C8.fnScope_by (by decide +kernel), rfl, rfl, fun _ _ _ _ _ _ us h => match us, h with | [_], _ => rfl, by decide +kernel⟩
theorem c_end_of_text : DChk pk d_end_of_text := ⟨C8.fnScope_by (by decide +kernel), rfl, rfl, fun _ _ _ _ _ _ us h => match us, h with | [_, _], _ => rfl, by decide +kernel⟩
theorem c_end_of_token : DChk pk d_end_of_token := ⟨C8.fnScope_by (by decide +kernel), rfl, rfl, fun _ _ _ _ _ _ us h => match us, h with | [_, _], _ => rfl, by decide +kernel⟩
theorem c_letters_of : DChk pk d_letters_of := ⟨C8.fnScope_by (by decide +kernel), rfl, rfl, fun _ _ _ _ _ _ us h => match us, h with | [_], _ => rfl, by decide +kernel⟩
theorem c_fits_token : DChk pk d_fits_token := ⟨C8.fnScope_by (by decide +kernel), rfl, rfl, fun _ _ _ _ _ _ us h => match us, h with | [_], _ => rfl, by decide +kernel⟩
theorem c_tokens_in : DChk pk d_tokens_in := ⟨C8.fnScope_by (by decide +kernel), rfl, rfl, fun _ _ _ _ _ _ us h => match us, h with | [_], _ => rfl, by decide +kernel⟩
theorem c_integer_by : DChk pk d_integer_by := ⟨C8.fnScope_by (by decide +kernel), rfl, rfl, fun _ _ _ _ _ _ us h => match us, h with | [_], _ => rfl, by decide +kernel⟩
theorem c_atom_by : DChk pk d_atom_by := ⟨C8.fnScope_by (by decide +kernel), rfl, rfl, fun _ _ _ _ _ _ us h => match us, h with | [_], _ => rfl, by decide +kernel⟩
theorem c_with_datum : DChk pk d_with_datum := ⟨C8.fnScope_by (by decide +kernel), rfl, rfl, fun _ _ _ _ _ _ us h => match us, h with | [_, _], _ => rfl, by decide +kernel⟩
theorem c_datum_by : DChk pk d_datum_by := ⟨C8.fnScope_by (by decide +kernel), rfl, rfl, fun _ _ _ _ _ _ us h => match us, h with | [_, _], _ => rfl, by decide +kernel⟩
theorem c_need_shallow : DChk pk d_need_shallow := ⟨C8.fnScope_by (by decide +kernel), rfl, rfl, fun _ _ _ _ _ _ us h => match us, h with | [_], _ => rfl, by decide +kernel⟩
theorem c_need_string : DChk pk d_need_string := ⟨C8.fnScope_by (by decide +kernel), rfl, rfl, fun _ _ _ _ _ _ us h => match us, h with | [_], _ => rfl, by decide +kernel⟩
theorem c_datum_text : DChk pk d_datum_text := ⟨C8.fnScope_by (by decide +kernel), rfl, rfl, fun _ _ _ _ _ _ us h => match us, h with | [_], _ => rfl, by decide +kernel⟩
theorem c_tokens_of : DChk pk d_tokens_of := ⟨C8.fnScope_by (by decide +kernel), rfl, rfl, fun _ _ _ _ _ _ us h => match us, h with | [_], _ => rfl, by decide +kernel⟩
theorem c_read_datum : DChk pk d_read_datum := ⟨C8.fnScope_by (by decide +kernel), rfl, rfl, fun _ _ _ _ _ _ us h => match us, h with | [_], _ => rfl, by decide +kernel⟩
theorem c__law_cup : DChk pk d__law_cup := ⟨C8.fnScope_by (by decide +kernel), rfl, rfl, fun _ _ _ _ _ _ us h => match us, h with | [_], _ => rfl, by decide +kernel⟩
theorem c__law_roll : DChk pk d__law_roll := ⟨C8.fnScope_by (by decide +kernel), rfl, rfl, fun _ _ _ _ _ _ us h => match us, h with | [_, _], _ => rfl, by decide +kernel⟩
theorem c__law_some : DChk pk d__law_some := ⟨C8.fnScope_by (by decide +kernel), rfl, rfl, fun _ _ _ _ _ _ us h => match us, h with | [_, _], _ => rfl, by decide +kernel⟩
theorem c__law_word : DChk pk d__law_word := ⟨C8.fnScope_by (by decide +kernel), rfl, rfl, fun _ _ _ _ _ _ us h => match us, h with | [_], _ => rfl, by decide +kernel⟩
theorem c__law_text : DChk pk d__law_text := ⟨C8.fnScope_by (by decide +kernel), rfl, rfl, fun _ _ _ _ _ _ us h => match us, h with | [_], _ => rfl, by decide +kernel⟩
theorem c__law_datum : DChk pk d__law_datum := ⟨C8.fnScope_by (by decide +kernel), rfl, rfl, fun _ _ _ _ _ _ us h => match us, h with | [_, _], _ => rfl, by decide +kernel⟩
theorem c_law : DChk pk d_law := ⟨C8.fnScope_by (by decide +kernel), rfl, rfl, fun _ _ _ _ _ _ us h => match us, h with | [_], _ => rfl, by decide +kernel⟩
theorem ok : PkOk pk := ⟨⟨c_is_whole, c_is_made_of, c_is_figures, c_fits_word, c_fits_text, c_is_atom, c_measured, c_need_datum, c_text_written, c_written, c_end_of_text, c_end_of_token, c_letters_of, c_fits_token, c_tokens_in, c_integer_by, c_atom_by, c_with_datum, c_datum_by, c_need_shallow, c_need_string, c_datum_text, c_tokens_of, c_read_datum, c__law_cup, c__law_roll, c__law_some, c__law_word, c__law_text, c__law_datum, c_law, trivial⟩, by decide +kernel, by
  intro d hd
  simp only [pk, List.mem_cons, List.not_mem_nil, or_false] at hd
  rcases hd with rfl | rfl | rfl | rfl | rfl | rfl | rfl | rfl | rfl | rfl | rfl | rfl | rfl | rfl | rfl | rfl | rfl | rfl | rfl | rfl | rfl | rfl | rfl | rfl | rfl | rfl | rfl | rfl | rfl | rfl | rfl <;> intro h <;> first | rfl | cases h⟩
section
variable {Pr : Program} {K : PySem.W.Frag} {h : Heap} {mg : Str → Option Value}
theorem tell__law_error (X : K.In h) (G : h.Ns mainGlobals mg) (c : He.SaysE pk.fa pk.fn K) (cx : xiAll Pr K pk.xs = true) (T : List (Addr × Str)) : TellK K mg (pk.cn K T) t__law_error.x t__law_error.row := by
  have ht : t__law_error ∈ pk.tls := by simp [pk]
  obtain ⟨oc, od, osl, kV, doc, pm, an, cdv, ct, lk, hcd⟩ := tl_fn c ht
  refine ⟨He.ga K "_law_error", defArgs (top 51), defBody (top 51), defScope (top 51), kV, doc, pm, cdv, ct, oc, an, od, osl, ["_law_call", "e"], "_law_call", "", _, _, [(.ref (He.ga K "InvalidDatum"), some (.txt [100, 97, 116, 117, 109])), (.ref (He.ga K "InvalidText"), some (.pre [116, 101, 120, 116, 32] "at" 1))], _, _, _, _, _, _, _, tl_glo X G c ht, tl_keep c ht, lk, hcd, .all (fun us h => match us, h with | [_], _ => rfl), C8.fnScope_by (by decide +kernel), rfl, .inl rfl, by decide, by decide, rfl, by decide +kernel, .ret rfl (glo_h X G c (x := "InvalidDatum") (by decide +kernel)) (by decide) (by decide +kernel) (.pre rfl (glo_h X G c (x := "InvalidText") (by decide +kernel)) (by decide) (by decide +kernel) (xi_h cx (x := "InvalidText") (f := "at") (by decide +kernel)).xf (xi_h cx (x := "InvalidText") (f := "at") (by decide +kernel)).nof rfl rfl (by decide) (by decide) rfl rfl (fr_h X G c (by decide +kernel)) (.nil)), fun cc t ad hr hc => ?_⟩
  simp only [t__law_error] at hr
  rcases cc with _ | cc
  · simp only [List.getElem?_cons_zero, Option.some.injEq] at hr
    subst hr
    have ea : ad = He.ga K "InvalidDatum" := by simpa [Pk.cn, pk] using hc.symm
    subst ea
    exact ⟨_, by simp only [tellOf, exm_h c (x := "InvalidDatum") (y := "InvalidDatum") (b := true) (by decide +kernel)], rfl, by unfold okS; decide +kernel⟩
  simp only [List.getElem?_cons_succ] at hr
  rcases cc with _ | cc
  · simp only [List.getElem?_cons_zero, Option.some.injEq] at hr
    subst hr
    have ea : ad = He.ga K "InvalidText" := by simpa [Pk.cn, pk] using hc.symm
    subst ea
    exact ⟨_, by simp only [tellOf, exm_h c (x := "InvalidText") (y := "InvalidDatum") (b := false) (by decide +kernel), exm_h c (x := "InvalidText") (y := "InvalidText") (b := true) (by decide +kernel), if_true], by unfold okS; decide +kernel, "at", 1, by simp [Pk.cn, pk], rfl⟩
  simp only [List.getElem?_cons_succ] at hr
  simp at hr
theorem tells (X : K.In h) (G : h.Ns mainGlobals mg) (c : He.SaysE pk.fa pk.fn K) (cx : xiAll Pr K pk.xs = true) (T : List (Addr × Str)) : ∀ t ∈ pk.tls, TellK K mg (pk.cn K T) t.x t.row := by
  intro t ht
  simp only [pk, List.mem_cons, List.not_mem_nil, or_false] at ht
  rcases ht with rfl
  · exact tell__law_error X G c cx T
end
end K02

set_option linter.all false
set_option autoImplicit false
set_option maxRecDepth 100000
/-! MS: texts that are no data: where they are refused. No program here. -/
namespace Q1
open G
theorem Ch.pre {a b : Its} : ∀ {p : Bool}, Ch p (a ++ b) → Ch p a := by
  induction a with
  | nil => exact fun _ => trivial
  | cons x a ih => exact fun h => ⟨h.1, h.2.1, h.2.2.1, ih h.2.2.2⟩
def prevA (p : Bool) (l : Its) : Bool := match l.getLast? with
  | some q => isA q.2
  | none => p
theorem prevA_cons (p : Bool) (q : List Nat × Tok) (r : Its) : prevA p (q :: r) = prevA (isA q.2) r := by
  unfold prevA
  cases r with
  | nil => rfl
  | cons x r =>
    obtain ⟨y, hy⟩ : ∃ y, (x :: r).getLast? = some y := ⟨_, List.getLast?_eq_some_getLast (by simp)⟩
    rw [List.getLast?_cons_cons, hy]
theorem Ch.mid {b : Its} {g t : List Nat} : ∀ {a : Its} {p : Bool}, Ch p (a ++ (g, t) :: b) → Bl g ∧ TG t ∧ (prevA p a = true → g = [] → stH t = true)
  | [], p, h => ⟨h.1, h.2.1, h.2.2.1⟩
  | x :: a, p, h => by
    have := Ch.mid (a := a) h.2.2.2
    rw [prevA_cons]
    exact this
theorem Ch_snoc {g t : List Nat} (hg : Bl g) (ht : TG t) : ∀ (l : Its) (p : Bool), Ch p l → (prevA p l = true → g = [] → stH t = true) → Ch p (l ++ [(g, t)])
  | [], p, _, h => ⟨hg, ht, h, trivial⟩
  | (g1, t1) :: r, p, hc, h => by
    rw [prevA_cons] at h
    exact ⟨hc.1, hc.2.1, hc.2.2.1, Ch_snoc hg ht r _ hc.2.2.2 h⟩
theorem prevA_snoc (p : Bool) (l : Its) (g t : List Nat) : prevA p (l ++ [(g, t)]) = isA t := by
  unfold prevA
  rw [List.getLast?_append]
  rfl
theorem due_app : ∀ (l m : Its) (i : Nat), due i (l ++ m) = due i l ++ due (i + (txt l).length) m
  | [], m, i => by simp [due, txt]
  | (g, t) :: r, m, i => by
    have := due_app r m (i + g.length + t.length)
    simp only [List.cons_append, due, this, txt, List.length_append]
    rw [show i + g.length + t.length + (txt r).length = i + (g.length + (t.length + (txt r).length)) from by omega]
theorem due_snd : ∀ (l : Its) (i : Nat), (due i l).map (·.2) = l.map (·.2)
  | [], i => rfl
  | (g, t) :: r, i => by simp only [due, List.map_cons, due_snd r]
theorem due_len : ∀ (l : Its) (i : Nat), (due i l).length = l.length
  | [], i => rfl
  | (g, t) :: r, i => by simp only [due, List.length_cons, due_len r]
/-! an error behind tokens -/
theorem lx_blanks {Y : List Nat} {e : Nat} : ∀ (g : List Nat) (f i : Nat), Bl g → (g ++ Y).length ≤ f → (∀ f', Y.length ≤ f' → lx f' (i + g.length) Y = .error e) → lx f i (g ++ Y) = .error e
  | [], f, i, _, hf, h => h f hf
  | c :: g, f, i, hb, hf, h => by
    have hbc := hb c List.mem_cons_self
    cases f with
    | zero => simp at hf
    | succ f =>
      have hm : c = 32 ∨ c = 10 := by simpa [blank] using hbc
      have ht : tokLen (c :: (g ++ Y)) = some 1 := by rcases hm with rfl | rfl <;> simp [tokLen, isP]
      have ih := lx_blanks (e := e) g f (i + 1) (fun x hx => hb x (List.mem_cons_of_mem c hx)) (by simpa using hf) (fun f' hf' => by
        have := h f' hf'
        rw [show i + (c :: g).length = i + 1 + g.length from by simp only [List.length_cons]; omega] at this
        exact this)
      rw [List.cons_append]
      simp only [lx, ht, hbc, if_true, List.drop_succ_cons, List.drop_zero]
      exact ih
theorem bl_stH {g Y : List Nat} (hg : Bl g) (h : g ≠ []) : stH (g ++ Y) = true := by
  cases g with
  | nil => exact (h rfl).elim
  | cons c g =>
    have hm : c = 32 ∨ c = 10 := by simpa [blank] using hg c List.mem_cons_self
    rcases hm with rfl | rfl <;> rfl
theorem txt_st2 {r : Its} {X : List Nat} {q : Bool} (h : Ch q r) (hX : prevA q r = true → stH X = true) (hq : q = true) : stH (txt r ++ X) = true := by
  subst hq
  match r, h with
  | [], _ => exact hX rfl
  | ([], t) :: r, h =>
    have := h.2.2.1 rfl rfl
    cases t with
    | nil => simp [stH] at this
    | cons c t => exact this
  | (c :: g, t) :: r, h =>
    have := bl_stH (Y := t ++ txt r ++ X) h.1 (by simp)
    simpa [txt] using this
theorem lx_err {X : List Nat} {e : Nat} : ∀ (l : Its) (f i : Nat), Ch false l → (prevA false l = true → stH X = true) → (txt l ++ X).length ≤ f → (∀ f', X.length ≤ f' → lx f' (i + (txt l).length) X = .error e) → lx f i (txt l ++ X) = .error e
  | [], f, i, _, _, hf, h => h f hf
  | (g, t) :: r, f, i, hc, hs, hf, h => by
    obtain ⟨hg, ht, _, hr⟩ := hc
    rw [prevA_cons] at hs
    have e0 : txt ((g, t) :: r) ++ X = g ++ (t ++ (txt r ++ X)) := by simp [txt]
    rw [e0] at hf ⊢
    refine lx_blanks g f i hg hf fun f' hf' => ?_
    have hs' : isA t = true → (txt r ++ X) = [] ∨ stH (txt r ++ X) = true := fun q => .inr (txt_st2 hr hs q)
    obtain ⟨c, t', rfl, h1, h2, h3⟩ := tok_ok ht hs'
    cases f' with
    | zero => simp at hf'
    | succ f' =>
      have d1 : (c :: (t' ++ (txt r ++ X))).drop (c :: t').length = txt r ++ X := by
        rw [← List.cons_append, List.drop_left]
      have d2 : (c :: (t' ++ (txt r ++ X))).take (c :: t').length = c :: t' := by
        rw [← List.cons_append, List.take_left]
      have ih := lx_err (X := X) (e := e) r f' (i + g.length + (c :: t').length) hr.no (fun q => by
        cases r with
        | nil => simp [prevA] at q
        | cons x r => rw [prevA_cons] at q hs; exact hs q) (by
        have hf : (t' ++ (txt r ++ X)).length + 1 ≤ f' + 1 := hf'
        rw [List.length_append] at hf
        omega) (fun f2 hf2 => by
        have := h f2 hf2
        rw [show i + (txt ((g, c :: t') :: r)).length = i + g.length + (c :: t').length + (txt r).length from by simp only [txt, List.length_append]; omega] at this
        exact this)
      rw [List.cons_append]
      simp only [lx, h2, h1, d1, d2, h3, ih, if_true, Bool.false_eq_true, if_false]
/-- a token that does not fit -/
theorem lx_bad {t rest : List Nat} (h0 : t ≠ []) (h1 : ∀ c ∈ t, isStop c = false) (h2 : fitsT t = false) (f i : Nat) (hf : (t ++ 32 :: rest).length ≤ f) : lx f i (t ++ 32 :: rest) = .error i := by
  cases t with
  | nil => exact (h0 rfl).elim
  | cons c t =>
    have hc := h1 c List.mem_cons_self
    cases f with
    | zero => simp at hf
    | succ f =>
      have n34 : c ≠ 34 := by rintro rfl; simp [isStop] at hc
      have nP : isP c = false := by
        simp only [isStop, isP, List.mem_cons, List.not_mem_nil, or_false, decide_eq_false_iff_not] at hc ⊢
        omega
      have nb : blank c = false := by
        simp only [isStop, blank, List.mem_cons, List.not_mem_nil, or_false, decide_eq_false_iff_not] at hc ⊢
        omega
      have n39 : ¬ (t ++ 32 :: rest).head? = some 39 := by
        cases t with
        | nil => simp
        | cons x t =>
          have := h1 x (by simp)
          simp only [List.cons_append, List.head?_cons, Option.some.injEq]
          rintro rfl
          simp [isStop] at this
      have hw := takeW_all (p := fun c => !isStop c) (t := c :: t) (rest := 32 :: rest) (fun x hx => by simp [h1 x hx]) (.inr ⟨32, rest, rfl, by decide⟩)
      rw [List.cons_append] at hw
      have ht : tokLen (c :: (t ++ 32 :: rest)) = some (c :: t).length := by
        simp only [tokLen, if_neg n34, n39, and_false, nP, Bool.false_eq_true, if_false, hw]
      have d2 : (c :: (t ++ 32 :: rest)).take (c :: t).length = c :: t := by
        rw [← List.cons_append, List.take_left]
      rw [List.cons_append]
      simp only [lx, ht, nb, d2, h2, Bool.false_eq_true, if_false]
theorem lx_slash {rest : List Nat} (f i : Nat) (hf : ([34, 97, 92, 98, 34] ++ 32 :: rest).length ≤ f) : lx f i ([34, 97, 92, 98, 34] ++ 32 :: rest) = .error i := by
  cases f with
  | zero => simp at hf
  | succ f =>
    have ht : tokLen (34 :: ([97, 92, 98, 34] ++ 32 :: rest)) = some 5 := by simp [tokLen, qE]
    have h2 : fitsT [34, 97, 92, 98, 34] = false := by decide
    show lx (f + 1) i (34 :: ([97, 92, 98, 34] ++ 32 :: rest)) = _
    have d2 : (34 :: ([97, 92, 98, 34] ++ 32 :: rest)).take 5 = [34, 97, 92, 98, 34] := rfl
    have nb : blank 34 = false := by decide
    simp only [lx, ht, nb, d2, h2, Bool.false_eq_true, if_false]
theorem lx_open {y : List Nat} (hy : y = [] ∨ y = [97] ∨ y = [92]) (f i : Nat) (hf : (34 :: y).length ≤ f) : lx f i (34 :: y) = .error (i + (34 :: y).length) := by
  cases f with
  | zero => simp at hf
  | succ f =>
    have ht : tokLen (34 :: y) = none := by rcases hy with rfl | rfl | rfl <;> decide
    simp only [lx, ht]
/-! ### a part of a list's tokens -/
def Ov (S S' : List Fr) : Prop := ∃ X acc, S' = X ++ ([40], acc) :: S
theorem Ov.push {S : List Fr} (w : W) : ∀ {S' : List Fr}, Ov S S' → Ov S (pushR S' w) := by
  rintro S' ⟨X, acc, rfl⟩
  induction X generalizing w with
  | nil => exact ⟨[], acc ++ [w], by simp [pushR]⟩
  | cons p X ih =>
    obtain ⟨t, ws⟩ := p
    rw [List.cons_append]
    unfold pushR
    split
    · exact ih _
    · split
      · exact ih _
      · exact ⟨(t, ws ++ [w]) :: X, acc, rfl⟩
theorem Ov.cons {S S' : List Fr} (p : Fr) (h : Ov S S') : Ov S (p :: S') := by
  obtain ⟨X, acc, rfl⟩ := h
  exact ⟨p :: X, acc, rfl⟩
theorem Ov.trans {S S' S'' : List Fr} (h : Ov S S') (k : Ov S' S'') : Ov S S'' := by
  obtain ⟨X, acc, rfl⟩ := h
  obtain ⟨Y, acc2, rfl⟩ := k
  exact ⟨Y ++ ([40], acc2) :: X, acc, by simp⟩
theorem Ov.ok {S : List Fr} (h : okR S) : ∀ {S' : List Fr}, Ov S S' → okR S' := by
  rintro S' ⟨X, acc, rfl⟩
  induction X with
  | nil => exact okR_cons h
  | cons p X ih => exact okR_cons ih
theorem take_map {l : List (Nat × Tok)} {p : Nat × Tok} {l' : List (Nat × Tok)} {t : Tok} {ts : List Tok} {k : Nat} (h : (p :: l').map (·.2) = (t :: ts).take k) : ∃ k', k = k' + 1 ∧ p.2 = t ∧ l'.map (·.2) = ts.take k' := by
  cases k with
  | zero => simp at h
  | succ k =>
    simp only [List.map_cons, List.take_succ_cons, List.cons.injEq] at h
    exact ⟨k, rfl, h.1, h.2⟩
theorem run_pre {x : W ⊕ List W} {ts : List Tok} (h : TkX x ts) : match x with
    | .inl w => ∀ (S S' : List Fr) (k : Nat) (l : List (Nat × Tok)), okR S → Ov S S' → l.map (·.2) = ts.take k → ∃ S2, runD S' l = .ok S2 ∧ Ov S S2
    | .inr ws => ∀ (S : List Fr) (acc : List W) (k : Nat) (l : List (Nat × Tok)), okR S → l.map (·.2) = ts.take k → ∃ S2, runD (([40], acc) :: S) l = .ok S2 ∧ Ov S S2 := by
  induction h with
  | @atom w t a =>
    intro S S' k l ok ov e
    cases l with
    | nil => exact ⟨S', rfl, ov⟩
    | cons p l =>
      obtain ⟨k, rfl, e1, e2⟩ := take_map (l := l) e
      have : l = [] := by simpa using e2
      subst this
      rw [runD_step (ov.ok ok) (fun q => (a.cl (e1.symm.trans q)).elim), e1]
      unfold stepR
      rw [a.op, if_neg (by simp), if_neg a.cl]
      exact ⟨_, rfl, ov.push _⟩
  | @quo w ts b _ ih =>
    intro S S' k l ok ov e
    cases l with
    | nil => exact ⟨S', rfl, ov⟩
    | cons p l =>
      obtain ⟨k, rfl, e1, e2⟩ := take_map (l := l) e
      have n41 : qT b ≠ [41] := by cases b <;> decide
      have op : isOp (qT b) = true := by cases b <;> decide
      rw [runD_step (ov.ok ok) (fun q => (n41 (e1.symm.trans q)).elim), e1]
      unfold stepR
      rw [if_pos op]
      exact ih S _ k l ok (ov.cons _) e2
  | @tup ws ts h0 ih =>
    intro S S' k l ok ov e
    cases l with
    | nil => exact ⟨S', rfl, ov⟩
    | cons p l =>
      obtain ⟨k, rfl, e1, e2⟩ := take_map (l := l) e
      rw [runD_step (ov.ok ok) (fun q => by rw [e1] at q; cases q), e1]
      have s1 : stepR S' [40] = ([40], []) :: S' := rfl
      rw [s1]
      by_cases hk : k ≤ ts.length
      · have e3 : (ts ++ [[41]]).take k = ts.take k := by rw [List.take_append_of_le_length hk]
        rw [e3] at e2
        obtain ⟨S2, a1, a2⟩ := ih S' [] k l (ov.ok ok) e2
        exact ⟨S2, a1, ov.trans a2⟩
      · have e3 : (ts ++ [[41]]).take k = ts ++ [[41]] := List.take_of_length_le (by simp; omega)
        rw [e3] at e2
        obtain ⟨l1, l3, rfl, f1, f3⟩ := List.map_eq_append_iff.mp e2
        obtain ⟨p3, rfl, f4⟩ : ∃ p, l3 = [p] ∧ p.2 = [41] := by
          cases l3 with
          | nil => simp at f3
          | cons p l =>
            simp only [List.map_cons, List.cons.injEq, List.map_eq_nil_iff] at f3
            exact ⟨p, by rw [f3.2], f3.1⟩
        have := run_tk h0 S' [] l1 [p3] (ov.ok ok) f1
        rw [this, runD_step (okR_cons (ov.ok ok)) (fun _ => rfl), f4]
        exact ⟨_, rfl, ov.push _⟩
  | nil =>
    intro S acc k l ok e
    have : l = [] := by simpa using e
    subst this
    exact ⟨_, rfl, [], acc, rfl⟩
  | @cons w ws t ts h1 h2 ih1 ih2 =>
    intro S acc k l ok e
    by_cases hk : k ≤ t.length
    · rw [List.take_append_of_le_length hk] at e
      exact ih1 S (([40], acc) :: S) k l ok ⟨[], acc, rfl⟩ e
    · obtain ⟨k', rfl⟩ : ∃ k', k = t.length + k' := ⟨k - t.length, by omega⟩
      rw [List.take_length_add_append] at e
      obtain ⟨l1, l3, rfl, e1, e3⟩ := List.map_eq_append_iff.mp e
      have := run_tk h1 (([40], acc) :: S) l1 l3 (okR_cons ok) e1
      rw [this]
      have hp : pushR (([40], acc) :: S) w = ([40], acc ++ [w]) :: S := by simp [pushR]
      rw [hp]
      exact ih2 S (acc ++ [w]) k' l3 ok e3
/-- a part of the tokens of a list -/
theorem run_part {ws : List W} {ts : List Tok} (h : TkX (.inr ws) ts) {l : List (Nat × Tok)} {k : Nat} (hk : 1 ≤ k) (hk2 : k ≤ ts.length + 1) (e : l.map (·.2) = ([40] :: (ts ++ [[41]])).take k) : ∃ S2, runD [([], [])] l = .ok S2 ∧ okR S2 := by
  cases l with
  | nil =>
    obtain ⟨k, rfl⟩ : ∃ k', k = k' + 1 := ⟨k - 1, by omega⟩
    simp at e
  | cons p l =>
    obtain ⟨k, rfl, e1, e2⟩ := take_map (l := l) e
    have ok : okR [(([] : Tok), ([] : List W))] := ⟨by simp, rfl⟩
    rw [runD_step ok (fun q => by rw [e1] at q; cases q), e1]
    have s1 : stepR [(([] : Tok), ([] : List W))] [40] = ([40], []) :: [([], [])] := rfl
    rw [List.take_append_of_le_length (by omega)] at e2
    obtain ⟨S2, a1, a2⟩ := run_pre h [([], [])] [] k l ok e2
    exact ⟨S2, by rw [s1]; exact a1, a2.ok ok⟩
end Q1

set_option Elab.async false
set_option linter.all false
set_option maxRecDepth 100000
set_option maxHeartbeats 4000000
namespace K02
open G Q1
abbrev cup (a b : Int) (t : G.ST) : G.ST := [.int a, .int b] :: t
theorem roll (d : Nat) (m a b : Int) (t : G.ST) (hm : 0 < m) (hmb : m < 18446744073709551616) :
    ∃ r a' b', 0 ≤ r ∧ r < m ∧ callD pk.pg (d + 1) 25 [.ref 0, .int m] (cup a b t) = .ok (.int r) (cup a' b' t) := by
  by_cases ha : 0 < a
  · refine ⟨a % m, a / m, b, Int.emod_nonneg _ (by omega), Int.emod_lt_of_pos _ hm, ?_⟩
    rw [call_eq (df := ⟨2, 4, b__law_roll⟩) rfl rfl]
    simp [bnd, G.ret, rd, opt, eS, item, seqI, seqL, ixOf, cmpop, biop, bInt, bLen, bList, bAbs, binop, big, asg, fits, line, wEq_str, wEq_int, wEq_bl, bIsi, isTy, b__law_roll, eS, bnd, G.ret, rd, opt, item, seqI, ixOf, cmpop, ha, biop, bInt, binop, hm, hmb, big, asg]
  · obtain ⟨b1, hb1⟩ : ∃ b1, b1 = (b * 30671 + 7919) % 2147483549 := ⟨_, rfl⟩
    have hb2 : 0 ≤ b1 ∧ b1 < 2147483549 := by rw [hb1]; omega
    have c1 : -18446744073709551616 < b1 ∧ b1 < 18446744073709551616 := by omega
    refine ⟨(b1 * (b1 + 131)) % 2147483587 / 709 % m, a, b1, Int.emod_nonneg _ (by omega), Int.emod_lt_of_pos _ hm, ?_⟩
    rw [call_eq (df := ⟨2, 4, b__law_roll⟩) rfl rfl]
    simp [bnd, G.ret, rd, opt, eS, item, seqI, seqL, ixOf, cmpop, biop, bInt, bLen, bList, bAbs, binop, big, asg, fits, line, wEq_str, wEq_int, wEq_bl, bIsi, isTy, b__law_roll, eS, bnd, G.ret, rd, opt, item, seqI, ixOf, cmpop, ha, biop, bInt, binop, hm, hmb, big, asg, ← hb1, c1]
theorem somL (d : Nat) (xs : List W) (a b : Int) (t : G.ST) (h0 : 0 < xs.length) (hl : xs.length < 1000) :
    ∃ (i : Nat) (x : W) (a' b' : Int), xs[i]? = some x ∧ callD pk.pg (d + 2) 26 [.ref 0, .lst xs] (cup a b t) = .ok x (cup a' b' t) := by
  obtain ⟨r, a', b', h1, h2, e⟩ := roll d xs.length a b t (by omega) (by omega)
  have hr : r.toNat < xs.length := by omega
  refine ⟨r.toNat, xs[r.toNat], a', b', List.getElem?_eq_getElem hr, ?_⟩
  rw [call_eq (df := ⟨2, 2, b__law_some⟩) rfl rfl]
  simp [bnd, G.ret, rd, opt, eS, item, seqI, seqL, ixOf, cmpop, biop, bInt, bLen, bList, bAbs, binop, big, asg, fits, line, wEq_str, wEq_int, wEq_bl, bIsi, isTy, b__law_some, eS, bnd, G.ret, rd, opt, item, seqI, ixOf, biop, bLen, e, h1, h2, hr]
theorem somS (d : Nat) (l : List Nat) (a b : Int) (t : G.ST) (h0 : 0 < l.length) (hl : l.length < 1000) :
    ∃ c a' b', c ∈ l ∧ callD pk.pg (d + 2) 26 [.ref 0, .str l] (cup a b t) = .ok (.str [c]) (cup a' b' t) := by
  obtain ⟨r, a', b', h1, h2, e⟩ := roll d l.length a b t (by omega) (by omega)
  have hr : r.toNat < l.length := by omega
  refine ⟨l[r.toNat], a', b', List.getElem_mem hr, ?_⟩
  rw [call_eq (df := ⟨2, 2, b__law_some⟩) rfl rfl]
  have hl2 : l.length ≤ 16777216 := by omega
  simp [bnd, G.ret, rd, opt, eS, item, seqI, seqL, ixOf, cmpop, biop, bInt, bLen, bList, bAbs, binop, big, asg, fits, line, wEq_str, wEq_int, wEq_bl, bIsi, isTy, b__law_some, eS, bnd, G.ret, rd, opt, item, seqI, ixOf, biop, bLen, e, h1, h2, hr, hl2]
theorem cup_ok (d : Nat) (ns : List Int) (hn : ns.length ≤ 63) : ∃ a b, callD pk.pg (d + 1) 24 [.scr ns] [] = .ok (.ref 0) (cup a b []) := by
  rw [call_eq (df := ⟨1, 2, b__law_cup⟩) rfl rfl]
  obtain ⟨n, r, e, hr⟩ : ∃ (n : Int) (r : List W), ns.map W.int ++ [.int 0] = .int n :: r ∧ r.length ≤ 63 := by
    cases ns with
    | nil => exact ⟨0, [], rfl, by simp [bnd, G.ret, rd, opt, eS, item, seqI, seqL, ixOf, cmpop, biop, bInt, bLen, bList, bAbs, binop, big, asg, fits, line, wEq_str, wEq_int, wEq_bl, bIsi, isTy]⟩
    | cons n ns => exact ⟨n, _, rfl, by simpa [bnd, G.ret, rd, opt, eS, item, seqI, seqL, ixOf, cmpop, biop, bInt, bLen, bList, bAbs, binop, big, asg, fits, line, wEq_str, wEq_int, wEq_bl, bIsi, isTy] using hn⟩
  have hl : ns.length + 1 ≤ 16777216 := by omega
  obtain ⟨c, hc⟩ : ∃ c : Int, c = if n < 0 then -n else n := ⟨_, rfl⟩
  by_cases h18 : 1000000000000000000 ≤ c
  · refine ⟨c / 11, (c * 193 + 1201) % 2077504273 + 89, ?_⟩
    simp [bnd, G.ret, rd, opt, eS, item, seqI, seqL, ixOf, cmpop, biop, bInt, bLen, bList, bAbs, binop, big, asg, fits, line, wEq_str, wEq_int, wEq_bl, bIsi, isTy, b__law_cup, eS, bnd, G.ret, rd, opt, item, seqI, seqL, ixOf, biop, bInt, bList, bAbs, binop, big, asg, cmpop, e, fits, line, hl, ← hc, h18]
  · refine ⟨0, (c * 193 + 1201) % 2077504273 + 89, ?_⟩
    simp [bnd, G.ret, rd, opt, eS, item, seqI, seqL, ixOf, cmpop, biop, bInt, bLen, bList, bAbs, binop, big, asg, fits, line, wEq_str, wEq_int, wEq_bl, bIsi, isTy, b__law_cup, eS, bnd, G.ret, rd, opt, item, seqI, seqL, ixOf, biop, bInt, bList, bAbs, binop, big, asg, cmpop, e, fits, line, hl, ← hc, h18]
theorem made_ok (d : Nat) (l S : List Nat) (s : G.ST) (hl : l.length ≤ 16777216) : callD pk.pg (d + 1) 1 [.str l, .str S] s = .ok (.bl (madeB l S)) s := by
  rw [call_eq (df := ⟨2, 3, b_is_made_of⟩) rfl rfl]
  have hc : evE pk.pg (callD pk.pg d) (.lc (.v 2) (.itr (.var 0)) .nil (.cmp .isin (.var 2) (.var 1)) [2]) [some (.str l), some (.str S), none] s = .ok (.lst (l.map fun c => .bl (decide (c ∈ S)))) s :=
    lc_mapL (f := fun c => .str [c]) (by simp [bnd, G.ret, rd, opt, eS, item, seqI, seqL, ixOf, cmpop, biop, bInt, bLen, bList, bAbs, binop, big, asg, fits, line, wEq_str, wEq_int, wEq_bl, bIsi, isTy, srcOf]) str1_inj (fun c _ => ⟨_, rfl, by simp [bnd, G.ret, rd, opt, eS, item, seqI, seqL, ixOf, cmpop, biop, bInt, bLen, bList, bAbs, binop, big, asg, fits, line, wEq_str, wEq_int, wEq_bl, bIsi, isTy, wipes, cmp_in1]⟩) hl
  by_cases h0 : l = []
  · subst h0; simp [bnd, G.ret, rd, opt, eS, item, seqI, seqL, ixOf, cmpop, biop, bInt, bLen, bList, bAbs, binop, big, asg, fits, line, wEq_str, wEq_int, wEq_bl, bIsi, isTy, b_is_made_of, madeB]
  · have h1 : (l == []) = false := by simpa [bnd, G.ret, rd, opt, eS, item, seqI, seqL, ixOf, cmpop, biop, bInt, bLen, bList, bAbs, binop, big, asg, fits, line, wEq_str, wEq_int, wEq_bl, bIsi, isTy] using h0
    simp [bnd, G.ret, rd, opt, eS, item, seqI, seqL, ixOf, cmpop, biop, bInt, bLen, bList, bAbs, binop, big, asg, fits, line, wEq_str, wEq_int, wEq_bl, bIsi, isTy, b_is_made_of, hc, bBools, boolsW_map, madeB, List.all_map, h1, h0, Function.comp_def]
theorem fig_ok (d : Nat) (l : List Nat) (s : G.ST) (hl : l.length ≤ 16777216) : callD pk.pg (d + 2) 2 [.str l] s = .ok (.bl (figB l)) s := by
  rw [call_eq (df := ⟨1, 1, b_is_figures⟩) rfl rfl]
  have hm0 := made_ok d l figs s hl
  have hc : pk.pg.consts[5]? = some (.str figs) := rfl
  cases l with
  | nil => simp [bnd, G.ret, rd, opt, eS, item, seqI, seqL, ixOf, cmpop, biop, bInt, bLen, bList, bAbs, binop, big, asg, fits, line, wEq_str, wEq_int, wEq_bl, bIsi, isTy, b_is_figures, hc, slice, cut, cutIx, memOk, eqOk, weq, hm0, figB, unsg, isSc]
  | cons c l =>
    have hl' : l.length + 1 ≤ 16777216 := by simpa [bnd, G.ret, rd, opt, eS, item, seqI, seqL, ixOf, cmpop, biop, bInt, bLen, bList, bAbs, binop, big, asg, fits, line, wEq_str, wEq_int, wEq_bl, bIsi, isTy] using hl
    have hm1 := made_ok d l figs s (by omega)
    by_cases h1 : c = 43
    · subst h1
      simp [bnd, G.ret, rd, opt, eS, item, seqI, seqL, ixOf, cmpop, biop, bInt, bLen, bList, bAbs, binop, big, asg, fits, line, wEq_str, wEq_int, wEq_bl, bIsi, isTy, b_is_figures, hc, slice, cut, cutIx, memOk, eqOk, weq, hm1, figB, unsg, isSc, hl']
    · by_cases h2 : c = 45
      · subst h2
        simp [bnd, G.ret, rd, opt, eS, item, seqI, seqL, ixOf, cmpop, biop, bInt, bLen, bList, bAbs, binop, big, asg, fits, line, wEq_str, wEq_int, wEq_bl, bIsi, isTy, b_is_figures, hc, slice, cut, cutIx, memOk, eqOk, weq, hm1, figB, unsg, isSc, hl']
      · have e : unsg (c :: l) = c :: l := by
          unfold unsg; split <;> simp_all [bnd, G.ret, rd, opt, eS, item, seqI, seqL, ixOf, cmpop, biop, bInt, bLen, bList, bAbs, binop, big, asg, fits, line, wEq_str, wEq_int, wEq_bl, bIsi, isTy]
        have n1 : ¬ 43 = c := fun h => h1 h.symm
        have n2 : ¬ 45 = c := fun h => h2 h.symm
        have n3 : (43 == c) = false := by simpa [bnd, G.ret, rd, opt, eS, item, seqI, seqL, ixOf, cmpop, biop, bInt, bLen, bList, bAbs, binop, big, asg, fits, line, wEq_str, wEq_int, wEq_bl, bIsi, isTy] using n1
        have n4 : (45 == c) = false := by simpa [bnd, G.ret, rd, opt, eS, item, seqI, seqL, ixOf, cmpop, biop, bInt, bLen, bList, bAbs, binop, big, asg, fits, line, wEq_str, wEq_int, wEq_bl, bIsi, isTy] using n2
        simp [bnd, G.ret, rd, opt, eS, item, seqI, seqL, ixOf, cmpop, biop, bInt, bLen, bList, bAbs, binop, big, asg, fits, line, wEq_str, wEq_int, wEq_bl, bIsi, isTy, b_is_figures, hc, slice, cut, cutIx, memOk, eqOk, weq, hm0, figB, e, isSc, hl', h1, h2, n3, n4]
theorem word_ok (d : Nat) (l : List Nat) (s : G.ST) (hl : l.length ≤ 16777216) : callD pk.pg (d + 3) 3 [.str l] s = .ok (.bl (wordB l)) s := by
  rw [call_eq (df := ⟨1, 1, b_fits_word⟩) rfl rfl]
  have hc : pk.pg.consts[6]? = some (.str signs) := rfl
  have hc3 : pk.pg.consts[3]? = some (.int 20) := rfl
  have h1 := made_ok (d + 1) l signs s hl
  have h2 := fig_ok d l s hl
  cases e1 : madeB l signs with
  | false => rw [e1] at h1; simp [bnd, G.ret, rd, opt, eS, item, seqI, seqL, ixOf, cmpop, biop, bInt, bLen, bList, bAbs, binop, big, asg, fits, line, wEq_str, wEq_int, wEq_bl, bIsi, isTy, b_fits_word, hc, h1, wordB, e1]
  | true =>
    rw [e1] at h1
    by_cases e2 : l.length ≤ 20
    · have e2' : (l.length : Int) ≤ 20 := by omega
      cases e3 : (l == [110, 105, 108]) with
      | true => simp [bnd, G.ret, rd, opt, eS, item, seqI, seqL, ixOf, cmpop, biop, bInt, bLen, bList, bAbs, binop, big, asg, fits, line, wEq_str, wEq_int, wEq_bl, bIsi, isTy, b_fits_word, hc, hc3, h1, wordB, e1, e2, e2', e3, hl, nil3]
      | false => simp [bnd, G.ret, rd, opt, eS, item, seqI, seqL, ixOf, cmpop, biop, bInt, bLen, bList, bAbs, binop, big, asg, fits, line, wEq_str, wEq_int, wEq_bl, bIsi, isTy, b_fits_word, hc, hc3, h1, wordB, e1, e2, e2', e3, hl, h2, nil3]
    · have e2' : ¬ (l.length : Int) ≤ 20 := by omega
      simp [bnd, G.ret, rd, opt, eS, item, seqI, seqL, ixOf, cmpop, biop, bInt, bLen, bList, bAbs, binop, big, asg, fits, line, wEq_str, wEq_int, wEq_bl, bIsi, isTy, b_fits_word, hc, hc3, h1, wordB, e1, e2, e2', hl]
def notStr : W → Bool
  | .non | .bl _ | .int _ | .tup _ | .lst _ | .ref _ => true
  | _ => false
theorem word_no (d : Nat) (w : W) (s : G.ST) (h : notStr w = true) : callD pk.pg (d + 3) 3 [w] s = .ok (.bl false) s := by
  rw [call_eq (df := ⟨1, 1, b_fits_word⟩) rfl rfl]
  cases w <;> first | (simp [bnd, G.ret, rd, opt, eS, item, seqI, seqL, ixOf, cmpop, biop, bInt, bLen, bList, bAbs, binop, big, asg, fits, line, wEq_str, wEq_int, wEq_bl, bIsi, isTy, notStr] at h; done) | simp [bnd, G.ret, rd, opt, eS, item, seqI, seqL, ixOf, cmpop, biop, bInt, bLen, bList, bAbs, binop, big, asg, fits, line, wEq_str, wEq_int, wEq_bl, bIsi, isTy, b_fits_word]
theorem slt1 (a b : Nat) : slt [a] [b] = decide (a < b) := by
  simp only [slt]
  by_cases h : a < b
  · simp [bnd, G.ret, rd, opt, eS, item, seqI, seqL, ixOf, cmpop, biop, bInt, bLen, bList, bAbs, binop, big, asg, fits, line, wEq_str, wEq_int, wEq_bl, bIsi, isTy, h]
  · by_cases h2 : b < a <;> simp [bnd, G.ret, rd, opt, eS, item, seqI, seqL, ixOf, cmpop, biop, bInt, bLen, bList, bAbs, binop, big, asg, fits, line, wEq_str, wEq_int, wEq_bl, bIsi, isTy, h, h2]
theorem text_ok (d : Nat) (l : List Nat) (s : G.ST) (hl : l.length ≤ 16777216) : callD pk.pg (d + 1) 4 [.str l] s = .ok (.bl (textB l)) s := by
  rw [call_eq (df := ⟨1, 2, b_fits_text⟩) rfl rfl]
  have hc : pk.pg.consts[4]? = some (.int 400) := rfl
  have hcomp : evE pk.pg (callD pk.pg d) (.lc (.v 1) (.itr (.sl (.var 0) (.itr (.k (.int 1))) .no)) .nil (.or (.cmp .eq (.var 1) (.k (.str [10]))) (.chain .le .le (.k (.str [32])) (.var 1) (.k (.str [126])))) [1]) [some (.str l), none] s = .ok (.lst ((l.drop 1).map fun c => .bl (c == 10 || (decide (32 ≤ c) && decide (c ≤ 126))))) s := by
    refine lc_mapL (f := fun c => .str [c]) ?_ str1_inj (fun c _ => ⟨_, rfl, ?_⟩) (by simp [bnd, G.ret, rd, opt, eS, item, seqI, seqL, ixOf, cmpop, biop, bInt, bLen, bList, bAbs, binop, big, asg, fits, line, wEq_str, wEq_int, wEq_bl, bIsi, isTy]; omega)
    · cases l with
      | nil => simp [bnd, G.ret, rd, opt, eS, item, seqI, seqL, ixOf, cmpop, biop, bInt, bLen, bList, bAbs, binop, big, asg, fits, line, wEq_str, wEq_int, wEq_bl, bIsi, isTy, srcOf, slice, cut, cutIx]
      | cons c l =>
        have hl' : l.length + 1 ≤ 16777216 := by simpa [bnd, G.ret, rd, opt, eS, item, seqI, seqL, ixOf, cmpop, biop, bInt, bLen, bList, bAbs, binop, big, asg, fits, line, wEq_str, wEq_int, wEq_bl, bIsi, isTy] using hl
        have : min 1 (l.length + 1) = 1 := by omega
        simp [bnd, G.ret, rd, opt, eS, item, seqI, seqL, ixOf, cmpop, biop, bInt, bLen, bList, bAbs, binop, big, asg, fits, line, wEq_str, wEq_int, wEq_bl, bIsi, isTy, srcOf, slice, cut, cutIx, hl', this]
    · by_cases h1 : c = 10
      · subst h1; simp [bnd, G.ret, rd, opt, eS, item, seqI, seqL, ixOf, cmpop, biop, bInt, bLen, bList, bAbs, binop, big, asg, fits, line, wEq_str, wEq_int, wEq_bl, bIsi, isTy, wipes]
      · have h1' : (c == 10) = false := by simpa [bnd, G.ret, rd, opt, eS, item, seqI, seqL, ixOf, cmpop, biop, bInt, bLen, bList, bAbs, binop, big, asg, fits, line, wEq_str, wEq_int, wEq_bl, bIsi, isTy] using h1
        by_cases h2 : 32 ≤ c
        · have h3 : ¬ c < 32 := by omega
          by_cases h4 : c ≤ 126
          · have h5 : ¬ 126 < c := by omega
            simp [bnd, G.ret, rd, opt, eS, item, seqI, seqL, ixOf, cmpop, biop, bInt, bLen, bList, bAbs, binop, big, asg, fits, line, wEq_str, wEq_int, wEq_bl, bIsi, isTy, wipes, h1, h1', slt1, h2, h3, h4, h5]
          · have h5 : 126 < c := by omega
            simp [bnd, G.ret, rd, opt, eS, item, seqI, seqL, ixOf, cmpop, biop, bInt, bLen, bList, bAbs, binop, big, asg, fits, line, wEq_str, wEq_int, wEq_bl, bIsi, isTy, wipes, h1, h1', slt1, h2, h3, h4, h5]
        · have h3 : c < 32 := by omega
          simp [bnd, G.ret, rd, opt, eS, item, seqI, seqL, ixOf, cmpop, biop, bInt, bLen, bList, bAbs, binop, big, asg, fits, line, wEq_str, wEq_int, wEq_bl, bIsi, isTy, wipes, h1, h1', slt1, h2, h3]
  cases l with
  | nil => simp [bnd, G.ret, rd, opt, eS, item, seqI, seqL, ixOf, cmpop, biop, bInt, bLen, bList, bAbs, binop, big, asg, fits, line, wEq_str, wEq_int, wEq_bl, bIsi, isTy, b_fits_text, textB, slice, cut, cutIx]
  | cons c l =>
    have hl' : l.length + 1 ≤ 16777216 := by simpa [bnd, G.ret, rd, opt, eS, item, seqI, seqL, ixOf, cmpop, biop, bInt, bLen, bList, bAbs, binop, big, asg, fits, line, wEq_str, wEq_int, wEq_bl, bIsi, isTy] using hl
    cases e1 : (c == 34) with
    | false => simp [bnd, G.ret, rd, opt, eS, item, seqI, seqL, ixOf, cmpop, biop, bInt, bLen, bList, bAbs, binop, big, asg, fits, line, wEq_str, wEq_int, wEq_bl, bIsi, isTy, b_fits_text, textB, slice, cut, cutIx, hl', e1]
    | true =>
      by_cases e2 : l.length + 1 ≤ 401
      · have e3 : ¬ (401 : Int) < (l.length : Int) + 1 := by omega
        simp [bnd, G.ret, rd, opt, eS, item, seqI, seqL, ixOf, cmpop, biop, bInt, bLen, bList, bAbs, binop, big, asg, fits, line, wEq_str, wEq_int, wEq_bl, bIsi, isTy, b_fits_text, textB, slice, cut, cutIx, hl', e1, hc, e2, e3, hcomp, bBools, boolsW_map, Function.comp_def]
      · have e3 : (401 : Int) < (l.length : Int) + 1 := by omega
        simp [bnd, G.ret, rd, opt, eS, item, seqI, seqL, ixOf, cmpop, biop, bInt, bLen, bList, bAbs, binop, big, asg, fits, line, wEq_str, wEq_int, wEq_bl, bIsi, isTy, b_fits_text, textB, slice, cut, cutIx, hl', e1, hc, e2, e3]
theorem text_no (d : Nat) (w : W) (s : G.ST) (h : notStr w = true) : callD pk.pg (d + 1) 4 [w] s = .ok (.bl false) s := by
  rw [call_eq (df := ⟨1, 2, b_fits_text⟩) rfl rfl]
  cases w <;> first | (simp [bnd, G.ret, rd, opt, eS, item, seqI, seqL, ixOf, cmpop, biop, bInt, bLen, bList, bAbs, binop, big, asg, fits, line, wEq_str, wEq_int, wEq_bl, bIsi, isTy, notStr] at h; done) | simp [bnd, G.ret, rd, opt, eS, item, seqI, seqL, ixOf, cmpop, biop, bInt, bLen, bList, bAbs, binop, big, asg, fits, line, wEq_str, wEq_int, wEq_bl, bIsi, isTy, b_fits_text]
def wholeB (w : W) (lo hi : Int) : Bool := match w with
  | .int i => decide (lo ≤ i) && decide (i ≤ hi)
  | _ => false
def plain : W → Bool
  | .non | .bl _ | .int _ | .tup _ | .lst _ | .ref _ | .str _ => true
  | _ => false
theorem whole_ok (d : Nat) (w : W) (lo hi : Int) (s : G.ST) (h : plain w = true) : callD pk.pg (d + 1) 0 [w, .int lo, .int hi] s = .ok (.bl (wholeB w lo hi)) s := by
  rw [call_eq (df := ⟨3, 3, b_is_whole⟩) rfl rfl]
  cases w <;> first | (simp [bnd, G.ret, rd, opt, eS, item, seqI, seqL, ixOf, cmpop, biop, bInt, bLen, bList, bAbs, binop, big, asg, fits, line, wEq_str, wEq_int, wEq_bl, bIsi, isTy, plain] at h; done) | (simp [bnd, G.ret, rd, opt, eS, item, seqI, seqL, ixOf, cmpop, biop, bInt, bLen, bList, bAbs, binop, big, asg, fits, line, wEq_str, wEq_int, wEq_bl, bIsi, isTy, b_is_whole, wholeB]; done) | skip
  rename_i i
  by_cases h1 : lo ≤ i <;> simp [bnd, G.ret, rd, opt, eS, item, seqI, seqL, ixOf, cmpop, biop, bInt, bLen, bList, bAbs, binop, big, asg, fits, line, wEq_str, wEq_int, wEq_bl, bIsi, isTy, b_is_whole, wholeB, h1]
def okLen : W → Bool
  | .str l => decide (l.length ≤ 16777216)
  | _ => true
theorem atom_no (d : Nat) (w : W) (s : G.ST) (h : notStr w = true) (hp : plain w = true) (hw : wholeB w (-1000000000000) 1000000000000 = false) : callD pk.pg (d + 4) 5 [w] s = .ok (.bl false) s := by
  rw [call_eq (df := ⟨1, 1, b_is_atom⟩) rfl rfl]
  have hc : pk.pg.consts[2]? = some (.int 1000000000000) := rfl
  have h1 := whole_ok (d + 2) w (-1000000000000) 1000000000000 s hp
  rw [hw] at h1
  have h2 := word_no d w s h
  have h3 := text_no (d + 2) w s h
  simp [bnd, G.ret, rd, opt, eS, item, seqI, seqL, ixOf, cmpop, biop, bInt, bLen, bList, bAbs, binop, big, asg, fits, line, wEq_str, wEq_int, wEq_bl, bIsi, isTy, b_is_atom, hc, h1, h2, h3]
theorem atom_ok (d : Nat) (w : W) (s : G.ST) (h : plain w = true) (hl : okLen w = true) : callD pk.pg (d + 4) 5 [w] s = .ok (.bl (atB w)) s := by
  rw [call_eq (df := ⟨1, 1, b_is_atom⟩) rfl rfl]
  have hc : pk.pg.consts[2]? = some (.int 1000000000000) := rfl
  have h1 := whole_ok (d + 2) w (-1000000000000) 1000000000000 s h
  cases w with
  | str l =>
    have hl : l.length ≤ 16777216 := by simpa [bnd, G.ret, rd, opt, eS, item, seqI, seqL, ixOf, cmpop, biop, bInt, bLen, bList, bAbs, binop, big, asg, fits, line, wEq_str, wEq_int, wEq_bl, bIsi, isTy, okLen] using hl
    have h2 := word_ok d l s hl
    have h3 := text_ok (d + 2) l s hl
    simp only [wholeB] at h1
    cases e : wordB l with
    | true => rw [e] at h2; simp [bnd, G.ret, rd, opt, eS, item, seqI, seqL, ixOf, cmpop, biop, bInt, bLen, bList, bAbs, binop, big, asg, fits, line, wEq_str, wEq_int, wEq_bl, bIsi, isTy, b_is_atom, hc, h1, h2, atB, e]
    | false => rw [e] at h2; simp [bnd, G.ret, rd, opt, eS, item, seqI, seqL, ixOf, cmpop, biop, bInt, bLen, bList, bAbs, binop, big, asg, fits, line, wEq_str, wEq_int, wEq_bl, bIsi, isTy, b_is_atom, hc, h1, h2, h3, atB, e]
  | int i =>
    have h2 := word_no d (.int i) s rfl
    have h3 := text_no (d + 2) (.int i) s rfl
    simp only [wholeB] at h1
    cases e : (decide (-1000000000000 ≤ i) && decide (i ≤ 1000000000000)) with
    | true => rw [e] at h1; simp [bnd, G.ret, rd, opt, eS, item, seqI, seqL, ixOf, cmpop, biop, bInt, bLen, bList, bAbs, binop, big, asg, fits, line, wEq_str, wEq_int, wEq_bl, bIsi, isTy, b_is_atom, hc, h1, atB]; simpa [bnd, G.ret, rd, opt, eS, item, seqI, seqL, ixOf, cmpop, biop, bInt, bLen, bList, bAbs, binop, big, asg, fits, line, wEq_str, wEq_int, wEq_bl, bIsi, isTy] using e
    | false => rw [e] at h1; simp only [atB, e]; simp [bnd, G.ret, rd, opt, eS, item, seqI, seqL, ixOf, cmpop, biop, bInt, bLen, bList, bAbs, binop, big, asg, fits, line, wEq_str, wEq_int, wEq_bl, bIsi, isTy, b_is_atom, hc, h1, h2, h3]
  | non => exact atom_no d .non s rfl rfl rfl
  | bl b => exact atom_no d (.bl b) s rfl rfl rfl
  | tup xs => exact atom_no d (.tup xs) s rfl rfl rfl
  | lst xs => exact atom_no d (.lst xs) s rfl rfl rfl
  | ref n => exact atom_no d (.ref n) s rfl rfl rfl
  | _ => simp [bnd, G.ret, rd, opt, eS, item, seqI, seqL, ixOf, cmpop, biop, bInt, bLen, bList, bAbs, binop, big, asg, fits, line, wEq_str, wEq_int, wEq_bl, bIsi, isTy, plain] at h
end K02

set_option Elab.async false
set_option linter.all false
set_option maxRecDepth 100000
set_option maxHeartbeats 4000000
namespace K02
open G Q1
/-! measured -/
mutual
def dpW : W → Nat
  | .tup xs => dps xs + 1
  | _ => 1
def dps : List W → Nat
  | [] => 0
  | x :: xs => max (dpW x) (dps xs)
end
mutual
def plW : W → Bool
  | .tup xs => pls xs
  | w => plain w && okLen w
def pls : List W → Bool
  | [] => true
  | x :: xs => plW x && pls xs
end
theorem dpW_pos (w : W) : 1 ≤ dpW w := by cases w <;> simp [bnd, G.ret, rd, opt, eS, seqI, seqL, cmpop, biop, bInt, bLen, bList, bAbs, binop, big, asg, fits, line, wEq_str, wEq_int, wEq_bl, bIsi, dpW]
theorem szs_len : ∀ xs : List W, xs.length ≤ szs xs
  | [] => Nat.le_refl _
  | x :: xs => by
    have := szW_pos x
    have := szs_len xs
    simp only [szs, List.length_cons]; omega
abbrev Ln := List (W × Int)
def pr (p : W × Int) : W := .tup [p.1, .int p.2]
def szL : Ln → Nat
  | [] => 0
  | p :: r => szW p.1 + szL r
def mxL : Ln → Int
  | [] => 0
  | p :: r => max (p.2 + dpW p.1 - 1) (mxL r)
def okL (L : Ln) : Prop := ∀ p ∈ L, gdW p.1 = true ∧ p.2 + dpW p.1 - 1 ≤ 60
theorem szL_app (a b : Ln) : szL (a ++ b) = szL a + szL b := by
  induction a with
  | nil => simp [bnd, G.ret, rd, opt, eS, seqI, seqL, cmpop, biop, bInt, bLen, bList, bAbs, binop, big, asg, fits, line, wEq_str, wEq_int, wEq_bl, bIsi, szL]
  | cons p a ih => simp [bnd, G.ret, rd, opt, eS, seqI, seqL, cmpop, biop, bInt, bLen, bList, bAbs, binop, big, asg, fits, line, wEq_str, wEq_int, wEq_bl, bIsi, szL, ih]; omega
theorem mxL_nn (a : Ln) : 0 ≤ mxL a := by
  induction a with
  | nil => simp [bnd, G.ret, rd, opt, eS, seqI, seqL, cmpop, biop, bInt, bLen, bList, bAbs, binop, big, asg, fits, line, wEq_str, wEq_int, wEq_bl, bIsi, mxL]
  | cons p a ih => simp only [mxL]; omega
theorem mxL_app (a b : Ln) : mxL (a ++ b) = max (mxL a) (mxL b) := by
  have := mxL_nn b
  induction a with
  | nil => simp [bnd, G.ret, rd, opt, eS, seqI, seqL, cmpop, biop, bInt, bLen, bList, bAbs, binop, big, asg, fits, line, wEq_str, wEq_int, wEq_bl, bIsi, mxL]; omega
  | cons p a ih => simp only [List.cons_append, mxL, ih]; omega
def kids (xs : List W) (d : Int) : Ln := xs.map fun x => (x, d + 1)
theorem szL_kids (xs : List W) (d : Int) : szL (kids xs d) = szs xs := by
  induction xs with
  | nil => rfl
  | cons x xs ih => simp only [kids, List.map_cons, szL, szs] at ih ⊢; rw [ih]
theorem mxL_kids (xs : List W) (d : Int) (hd : 0 ≤ d) : max d (mxL (kids xs d)) = d + dps xs := by
  induction xs with
  | nil => simp [bnd, G.ret, rd, opt, eS, seqI, seqL, cmpop, biop, bInt, bLen, bList, bAbs, binop, big, asg, fits, line, wEq_str, wEq_int, wEq_bl, bIsi, kids, mxL, dps]; omega
  | cons x xs ih =>
    have := dpW_pos x
    simp only [kids, List.map_cons, mxL, dps] at ih ⊢
    omega
theorem okL_kids (xs : List W) (d : Int) (hd : d ≤ 60) : okL (kids xs d) ↔ (gds xs = true ∧ d + dps xs ≤ 60) := by
  induction xs with
  | nil => simp [bnd, G.ret, rd, opt, eS, seqI, seqL, cmpop, biop, bInt, bLen, bList, bAbs, binop, big, asg, fits, line, wEq_str, wEq_int, wEq_bl, bIsi, kids, okL, dps, gds]; omega
  | cons x xs ih =>
    have := dpW_pos x
    have e : okL (kids (x :: xs) d) ↔ ((gdW x = true ∧ d + 1 + dpW x - 1 ≤ 60) ∧ okL (kids xs d)) := by
      simp [bnd, G.ret, rd, opt, eS, seqI, seqL, cmpop, biop, bInt, bLen, bList, bAbs, binop, big, asg, fits, line, wEq_str, wEq_int, wEq_bl, bIsi, kids, okL]
    rw [e, ih]
    simp only [gds, dps, Bool.and_eq_true]
    constructor
    · rintro ⟨⟨h1, h2⟩, h3, h4⟩; exact ⟨⟨h1, h3⟩, by omega⟩
    · rintro ⟨⟨h1, h2⟩, h3⟩; exact ⟨⟨h1, by omega⟩, h2, by omega⟩
theorem okL_app (a b : Ln) : okL (a ++ b) ↔ okL a ∧ okL b := by
  simp only [okL, List.mem_append]
  exact ⟨fun h => ⟨fun p hp => h p (.inl hp), fun p hp => h p (.inr hp)⟩, fun h p hp => hp.elim (h.1 p) (h.2 p)⟩
theorem item_last (xs : List W) (x : W) (s : G.ST) : item (.lst (xs ++ [x])) (.int (-1)) s = some x := by
  have h1 : ixOf (-1) (xs ++ [x]).length = some xs.length := by
    simp only [ixOf, List.length_append, List.length_singleton]
    rw [if_neg (by omega), if_pos (by omega)]
    congr 1; omega
  simp only [item, seqI, Option.bind_some, h1]
  simp [bnd, G.ret, rd, opt, eS, seqI, seqL, cmpop, biop, bInt, bLen, bList, bAbs, binop, big, asg, fits, line, wEq_str, wEq_int, wEq_bl, bIsi]
theorem slice_init (xs : List W) (x : W) (s : G.ST) : slice (.lst (xs ++ [x])) none (some (-1)) s = some (.lst xs) := by
  have h1 : cutIx (xs ++ [x]).length (xs ++ [x]).length (some (-1)) = xs.length := by
    simp only [cutIx, List.length_append, List.length_singleton]
    rw [if_pos (by omega)]; omega
  have h2 : (-1 + ((xs.length : Int) + 1)).toNat = xs.length := by omega
  simp only [slice, seqL, Option.map_some, cut, h1, cutIx]
  simp [bnd, G.ret, rd, opt, eS, seqI, seqL, cmpop, biop, bInt, bLen, bList, bAbs, binop, big, asg, fits, line, wEq_str, wEq_int, wEq_bl, bIsi, h2]
theorem ne_nil (xs : List W) (x : W) (s : G.ST) : cmpop .ne (.lst (xs ++ [x])) (.lst []) s = some true := by
  have e1 : eqOk 64 (.lst (xs ++ [x])) (.lst []) = true := by
    rw [eqOk]; simp [bnd, G.ret, rd, opt, eS, seqI, seqL, cmpop, biop, bInt, bLen, bList, bAbs, binop, big, asg, fits, line, wEq_str, wEq_int, wEq_bl, bIsi]
  have e2 : weq (.lst (xs ++ [x])) (.lst []) = false := by
    cases xs <;> rfl
  simp [bnd, G.ret, rd, opt, eS, seqI, seqL, cmpop, biop, bInt, bLen, bList, bAbs, binop, big, asg, fits, line, wEq_str, wEq_int, wEq_bl, bIsi, cmpop, wEq, deref, e1, e2]
theorem ne_nil0 (s : G.ST) : cmpop .ne (.lst []) (.lst []) s = some false := rfl
/-- the loop of measured -/
def mCond : E := .cmp .ne (.var 1) (.lst .nil)
def mStep : G.S := match b_measured with
  | .seq _ (.seq (.whl _ b) _) => b
  | _ => .nil
theorem kids_lc (d : Nat) (v w : W) (xs : List W) (L : List W) (dd sz dp : Int) (x6 : Option W) (s : G.ST) (hl : xs.length ≤ 16777216) :
    evE pk.pg (callD pk.pg d) (.lc (.v 6) (.itr (.var 4)) .nil (.tup (.cons (.var 6) (.cons (.bin .add (.var 5) (.k (.int 1))) .nil))) [6]) [some v, some (.lst L), some (.int sz), some (.int dp), some (.tup xs), some (.int dd), x6] s = .ok (.lst ((kids xs dd).map pr)) s := by
  have h := lc_mapL (P := pk.pg) (call := callD pk.pg d) (env := [some v, some (.lst L), some (.int sz), some (.int dp), some (.tup xs), some (.int dd), x6]) (s := s) (s' := s) (t := .v 6) (it := .itr (.var 4)) (e := .tup (.cons (.var 6) (.cons (.bin .add (.var 5) (.k (.int 1))) .nil))) (own := [6]) (l := xs) (f := id) (h := fun x => .tup [x, .int (dd + 1)]) (by simp [bnd, G.ret, rd, opt, eS, seqI, seqL, cmpop, biop, bInt, bLen, bList, bAbs, binop, big, asg, fits, line, wEq_str, wEq_int, wEq_bl, bIsi, srcOf]) (fun a b h => h) (fun c _ => ⟨_, rfl, by simp [bnd, G.ret, rd, opt, eS, seqI, seqL, cmpop, biop, bInt, bLen, bList, bAbs, binop, big, asg, fits, line, wEq_str, wEq_int, wEq_bl, bIsi, wipes]⟩) hl
  rw [h]
  simp [bnd, G.ret, rd, opt, eS, seqI, seqL, cmpop, biop, bInt, bLen, bList, bAbs, binop, big, asg, fits, line, wEq_str, wEq_int, wEq_bl, bIsi, kids, pr, Function.comp_def]
theorem plain_of {w : W} (h : plW w = true) : plain w = true ∧ okLen w = true := by
  cases w <;> simp_all [bnd, G.ret, rd, opt, eS, seqI, seqL, cmpop, biop, bInt, bLen, bList, bAbs, binop, big, asg, fits, line, wEq_str, wEq_int, wEq_bl, bIsi, plW, plain, okLen]
theorem isi_tup (w : W) (h : plain w = true) : biop .isi [w, .ty "tuple"] [] = some (.bl (match w with | .tup _ => true | _ => false)) := by
  cases w <;> first | rfl | simp [bnd, G.ret, rd, opt, eS, seqI, seqL, cmpop, biop, bInt, bLen, bList, bAbs, binop, big, asg, fits, line, wEq_str, wEq_int, wEq_bl, bIsi, plain] at h
section
variable (d : Nat) (v : W) (L : List W) (w : W) (dd sz dp : Int) (x4 x5 x6 : Option W) (s : G.ST)
theorem hc0 : pk.pg.consts[0]? = some (.int 1000) := rfl
theorem hc1 : pk.pg.consts[1]? = some (.int 60) := rfl
theorem hmx (dp dd : Int) : (if dp < dd then dd else dp) = max dp dd := by omega
abbrev mRun : G.RS := evS pk.pg (callD pk.pg (d + 4)) mStep [some v, some (.lst (L ++ [.tup [w, .int dd]])), some (.int sz), some (.int dp), x4, x5, x6] s
theorem t_size (h1 : 1000 < sz + 1) : ∃ env', mRun d v L w dd sz dp x4 x5 x6 s = .ok (.rt .non) env' s := by
  refine ⟨[some v, some (.lst L), some (.int (sz + 1)), some (.int (max dp dd)), some w, some (.int dd), x6], ?_⟩
  simp [bnd, G.ret, rd, opt, eS, seqI, seqL, cmpop, biop, bInt, bLen, bList, bAbs, binop, big, asg, fits, line, wEq_str, wEq_int, wEq_bl, bIsi, mRun, mStep, b_measured, item_last, slice_init, bTwo, hc0, hc1, h1, asgs, hmx]
theorem t_depth (h1 : ¬ 1000 < sz + 1) (h2 : 60 < dd) : ∃ env', mRun d v L w dd sz dp x4 x5 x6 s = .ok (.rt .non) env' s := by
  refine ⟨[some v, some (.lst L), some (.int (sz + 1)), some (.int (max dp dd)), some w, some (.int dd), x6], ?_⟩
  simp [bnd, G.ret, rd, opt, eS, seqI, seqL, cmpop, biop, bInt, bLen, bList, bAbs, binop, big, asg, fits, line, wEq_str, wEq_int, wEq_bl, bIsi, mRun, mStep, b_measured, item_last, slice_init, bTwo, hc0, hc1, h1, h2, asgs, hmx]
theorem t_bad (h1 : ¬ 1000 < sz + 1) (h2 : ¬ 60 < dd) (hT : isTy w "tuple" = some false) (ha : callD pk.pg (d + 4) 5 [w] s = .ok (.bl false) s) : ∃ env', mRun d v L w dd sz dp x4 x5 x6 s = .ok (.rt .non) env' s := by
  refine ⟨[some v, some (.lst L), some (.int (sz + 1)), some (.int (max dp dd)), some w, some (.int dd), x6], ?_⟩
  simp [bnd, G.ret, rd, opt, eS, seqI, seqL, cmpop, biop, bInt, bLen, bList, bAbs, binop, big, asg, fits, line, wEq_str, wEq_int, wEq_bl, bIsi, mRun, mStep, b_measured, item_last, slice_init, bTwo, hc0, hc1, h1, h2, asgs, hmx, hT, ha]
theorem t_atom (h1 : ¬ 1000 < sz + 1) (h2 : ¬ 60 < dd) (hT : isTy w "tuple" = some false) (ha : callD pk.pg (d + 4) 5 [w] s = .ok (.bl true) s) : ∃ x4' x5', mRun d v L w dd sz dp x4 x5 x6 s = .ok .nx [some v, some (.lst L), some (.int (sz + 1)), some (.int (max dp dd)), x4', x5', x6] s := by
  refine ⟨some w, some (.int dd), ?_⟩
  simp [bnd, G.ret, rd, opt, eS, seqI, seqL, cmpop, biop, bInt, bLen, bList, bAbs, binop, big, asg, fits, line, wEq_str, wEq_int, wEq_bl, bIsi, mRun, mStep, b_measured, item_last, slice_init, bTwo, hc0, hc1, h1, h2, asgs, hmx, hT, ha]
theorem t_wide (xs : List W) (h1 : ¬ 1000 < sz + 1) (h2 : ¬ 60 < dd) (h3 : 1000 < xs.length) : ∃ env', mRun d v L (.tup xs) dd sz dp x4 x5 x6 s = .ok (.rt .non) env' s := by
  refine ⟨[some v, some (.lst L), some (.int (sz + 1)), some (.int (max dp dd)), some (.tup xs), some (.int dd), x6], ?_⟩
  have h3' : (1000 : Int) < xs.length := by omega
  have hT : isTy (.tup xs) "tuple" = some true := rfl
  simp [bnd, G.ret, rd, opt, eS, seqI, seqL, cmpop, biop, bInt, bLen, bList, bAbs, binop, big, asg, fits, line, wEq_str, wEq_int, wEq_bl, bIsi, mRun, mStep, b_measured, item_last, slice_init, bTwo, hc0, hc1, h1, h2, asgs, hmx, hT, h3']
theorem t_tup (xs : List W) (h1 : ¬ 1000 < sz + 1) (h2 : ¬ 60 < dd) (h3 : ¬ 1000 < xs.length) (hL : L.length ≤ 1000000) : ∃ x4' x5', mRun d v L (.tup xs) dd sz dp x4 x5 x6 s = .ok .nx [some v, some (.lst (L ++ (kids xs dd).map pr)), some (.int (sz + 1)), some (.int (max dp dd)), x4', x5', x6] s := by
  refine ⟨some (.tup xs), some (.int dd), ?_⟩
  have h3' : ¬ (1000 : Int) < xs.length := by omega
  have hT : isTy (.tup xs) "tuple" = some true := rfl
  have hk := kids_lc (d + 4) v v xs L dd (sz + 1) (max dp dd) x6 s (by omega)
  have hlen : L.length + (kids xs dd).length ≤ 16777216 := by simp [bnd, G.ret, rd, opt, eS, seqI, seqL, cmpop, biop, bInt, bLen, bList, bAbs, binop, big, asg, fits, line, wEq_str, wEq_int, wEq_bl, bIsi, kids]; omega
  simp [bnd, G.ret, rd, opt, eS, seqI, seqL, cmpop, biop, bInt, bLen, bList, bAbs, binop, big, asg, fits, line, wEq_str, wEq_int, wEq_bl, bIsi, mRun, mStep, b_measured, item_last, slice_init, bTwo, hc0, hc1, h1, h2, asgs, hmx, hT, h3', hk, hlen]
end
theorem szL_len : ∀ L : Ln, L.length ≤ szL L
  | [] => Nat.le_refl _
  | p :: L => by
    have := szW_pos p.1
    have := szL_len L
    simp only [szL, List.length_cons]; omega
abbrev mLoop (d fuel : Nat) (env : Env) (s : G.ST) : G.RS := whileS (fun env => evE pk.pg (callD pk.pg (d + 4)) mCond env) (fun env s => evS pk.pg (callD pk.pg (d + 4)) mStep env s) fuel env s
theorem m_cond (d : Nat) (v : W) (L : Ln) (p : W × Int) (sz dp : Int) (x4 x5 x6 : Option W) (s : G.ST) : evE pk.pg (callD pk.pg (d + 4)) mCond [some v, some (.lst ((L ++ [p]).map pr)), some (.int sz), some (.int dp), x4, x5, x6] s = .ok (.bl true) s := by
  have := ne_nil (L.map pr) (pr p) s
  have e : (L ++ [p]).map pr = L.map pr ++ [pr p] := by simp [bnd, G.ret, rd, opt, eS, seqI, seqL, cmpop, biop, bInt, bLen, bList, bAbs, binop, big, asg, fits, line, wEq_str, wEq_int, wEq_bl, bIsi]
  rw [e]
  simp only [cmpop] at this
  simp [bnd, G.ret, rd, opt, eS, seqI, seqL, cmpop, biop, bInt, bLen, bList, bAbs, binop, big, asg, fits, line, wEq_str, wEq_int, wEq_bl, bIsi, mCond, this]
theorem m_cond0 (d : Nat) (v : W) (sz dp : Int) (x4 x5 x6 : Option W) (s : G.ST) : evE pk.pg (callD pk.pg (d + 4)) mCond [some v, some (.lst []), some (.int sz), some (.int dp), x4, x5, x6] s = .ok (.bl false) s := by
  have := ne_nil0 s
  simp only [cmpop] at this
  simp [bnd, G.ret, rd, opt, eS, seqI, seqL, cmpop, biop, bInt, bLen, bList, bAbs, binop, big, asg, fits, line, wEq_str, wEq_int, wEq_bl, bIsi, mCond, this]
theorem isT_of {w : W} (h : plain w = true) (hn : ∀ xs, w ≠ .tup xs) : isTy w "tuple" = some false := by
  cases w <;> first | rfl | (simp [bnd, G.ret, rd, opt, eS, seqI, seqL, cmpop, biop, bInt, bLen, bList, bAbs, binop, big, asg, fits, line, wEq_str, wEq_int, wEq_bl, bIsi, plain] at h; done) | exact (hn _ rfl).elim
theorem l_ret {d f : Nat} {v : W} {L : Ln} {w : W} {dd sz dp : Int} {x4 x5 x6 : Option W} {s : G.ST} (h : ∃ env', mRun d v (L.map pr) w dd sz dp x4 x5 x6 s = .ok (.rt .non) env' s) : ∃ env', mLoop d (f + 1) [some v, some (.lst ((L ++ [(w, dd)]).map pr)), some (.int sz), some (.int dp), x4, x5, x6] s = .ok (.rt .non) env' s := by
  obtain ⟨env', h⟩ := h
  have e : (L ++ [(w, dd)]).map pr = L.map pr ++ [.tup [w, .int dd]] := by simp [bnd, G.ret, rd, opt, eS, seqI, seqL, cmpop, biop, bInt, bLen, bList, bAbs, binop, big, asg, fits, line, wEq_str, wEq_int, wEq_bl, bIsi, pr]
  refine ⟨env', ?_⟩
  simp only [mLoop, whileS, eS, m_cond]
  rw [e]
  simp only [mRun] at h
  rw [h]
theorem l_next {d f : Nat} {v : W} {L : Ln} {w : W} {dd sz dp : Int} {x4 x5 x6 : Option W} {s : G.ST} {env' : Env} (h : mRun d v (L.map pr) w dd sz dp x4 x5 x6 s = .ok .nx env' s) : mLoop d (f + 1) [some v, some (.lst ((L ++ [(w, dd)]).map pr)), some (.int sz), some (.int dp), x4, x5, x6] s = mLoop d f env' s := by
  have e : (L ++ [(w, dd)]).map pr = L.map pr ++ [.tup [w, .int dd]] := by simp [bnd, G.ret, rd, opt, eS, seqI, seqL, cmpop, biop, bInt, bLen, bList, bAbs, binop, big, asg, fits, line, wEq_str, wEq_int, wEq_bl, bIsi, pr]
  simp only [mLoop, whileS, eS, m_cond]
  rw [e]
  simp only [mRun] at h
  rw [h]
theorem pls_mem : ∀ {xs : List W}, pls xs = true → ∀ x ∈ xs, plW x = true
  | [], _, _, h => nomatch h
  | y :: ys, h, x, hx => by
    simp only [pls, Bool.and_eq_true] at h
    rcases List.mem_cons.mp hx with e | e
    · rw [e]; exact h.1
    · exact pls_mem h.2 x e
theorem m_loop (d : Nat) (v : W) (s : G.ST) : ∀ (n : Nat) (L : Ln) (sz dp : Int) (x4 x5 x6 : Option W) (fuel : Nat), szL L ≤ n → n ≤ 500000 → n < fuel → (∀ p ∈ L, plW p.1 = true ∧ 1 ≤ p.2) → 0 ≤ dp → 0 ≤ sz → sz ≤ 1000 →
    (okL L ∧ sz + szL L ≤ 1000 → ∃ x4' x5', mLoop d fuel [some v, some (.lst (L.map pr)), some (.int sz), some (.int dp), x4, x5, x6] s = .ok .nx [some v, some (.lst []), some (.int (sz + szL L)), some (.int (max dp (mxL L))), x4', x5', x6] s) ∧
    (¬ (okL L ∧ sz + szL L ≤ 1000) → ∃ env', mLoop d fuel [some v, some (.lst (L.map pr)), some (.int sz), some (.int dp), x4, x5, x6] s = .ok (.rt .non) env' s) := by
  intro n
  have nil : ∀ (sz dp : Int) (x4 x5 x6 : Option W) (f : Nat), 0 ≤ dp → sz ≤ 1000 → (okL [] ∧ sz + szL [] ≤ 1000 → ∃ x4' x5', mLoop d (f + 1) [some v, some (.lst (([] : Ln).map pr)), some (.int sz), some (.int dp), x4, x5, x6] s = .ok .nx [some v, some (.lst []), some (.int (sz + szL [])), some (.int (max dp (mxL []))), x4', x5', x6] s) ∧
    (¬ (okL [] ∧ sz + szL [] ≤ 1000) → ∃ env', mLoop d (f + 1) [some v, some (.lst (([] : Ln).map pr)), some (.int sz), some (.int dp), x4, x5, x6] s = .ok (.rt .non) env' s) := fun sz dp x4 x5 x6 f hdp hsz => by
    have hdp' : max dp 0 = dp := by omega
    refine ⟨fun _ => ⟨x4, x5, ?_⟩, fun h => (h ⟨(by intro p hp; cases hp), (by simp [bnd, G.ret, rd, opt, eS, seqI, seqL, cmpop, biop, bInt, bLen, bList, bAbs, binop, big, asg, fits, line, wEq_str, wEq_int, wEq_bl, bIsi, szL]; omega)⟩).elim⟩
    simp [bnd, G.ret, rd, opt, eS, seqI, seqL, cmpop, biop, bInt, bLen, bList, bAbs, binop, big, asg, fits, line, wEq_str, wEq_int, wEq_bl, bIsi, mLoop, whileS, m_cond0, szL, mxL, hdp']
  induction n with
  | zero =>
    intro L sz dp x4 x5 x6 fuel hL hn hf hp hdp h0 hsz
    obtain rfl : L = [] := by
      have := szL_len L
      exact List.length_eq_zero_iff.mp (by omega)
    obtain ⟨f, rfl⟩ : ∃ f, fuel = f + 1 := ⟨fuel - 1, by omega⟩
    exact nil sz dp x4 x5 x6 f hdp hsz
  | succ n ih =>
    intro L sz dp x4 x5 x6 fuel hL hn hf hp hdp h0 hsz
    obtain ⟨f, rfl⟩ : ∃ f, fuel = f + 1 := ⟨fuel - 1, by omega⟩
    rcases List.eq_nil_or_concat L with rfl | ⟨L0, ⟨w, dd⟩, rfl⟩
    · exact nil sz dp x4 x5 x6 f hdp hsz
    rw [List.concat_eq_append] at *
    obtain ⟨hw, hdd⟩ := hp (w, dd) (by simp [bnd, G.ret, rd, opt, eS, seqI, seqL, cmpop, biop, bInt, bLen, bList, bAbs, binop, big, asg, fits, line, wEq_str, wEq_int, wEq_bl, bIsi])
    have hp0 : ∀ p ∈ L0, plW p.1 = true ∧ 1 ≤ p.2 := fun p hp' => hp p (by simp [bnd, G.ret, rd, opt, eS, seqI, seqL, cmpop, biop, bInt, bLen, bList, bAbs, binop, big, asg, fits, line, wEq_str, wEq_int, wEq_bl, bIsi, hp'])
    have hsL : szL (L0 ++ [(w, dd)]) = szL L0 + szW w := by rw [szL_app]; simp [bnd, G.ret, rd, opt, eS, seqI, seqL, cmpop, biop, bInt, bLen, bList, bAbs, binop, big, asg, fits, line, wEq_str, wEq_int, wEq_bl, bIsi, szL]
    have hmL : mxL (L0 ++ [(w, dd)]) = max (mxL L0) (dd + dpW w - 1) := by
      rw [mxL_app]; have := dpW_pos w; have := mxL_nn L0; simp only [mxL]; omega
    have hoL : okL (L0 ++ [(w, dd)]) ↔ okL L0 ∧ gdW w = true ∧ dd + dpW w - 1 ≤ 60 := by rw [okL_app]; simp [bnd, G.ret, rd, opt, eS, seqI, seqL, cmpop, biop, bInt, bLen, bList, bAbs, binop, big, asg, fits, line, wEq_str, wEq_int, wEq_bl, bIsi, okL]
    have hwp := szW_pos w
    have hdw := dpW_pos w
    have hl0 := szL_len L0
    have hdd' : 1 ≤ dd := hdd
    have hw' : plW w = true := hw
    obtain ⟨hpl, hlen⟩ := plain_of hw'
    rw [hsL, hmL, hoL]
    rw [hsL] at hL
    by_cases h1 : 1000 < sz + 1
    · refine ⟨fun h => by have := h.2; omega, fun _ => l_ret (t_size d v _ w dd sz dp x4 x5 x6 s h1)⟩
    by_cases h2 : 60 < dd
    · refine ⟨fun h => by have := h.1.2.2; omega, fun _ => l_ret (t_depth d v _ w dd sz dp x4 x5 x6 s h1 h2)⟩
    by_cases hT : ∃ xs, w = .tup xs
    · obtain ⟨xs, rfl⟩ := hT
      simp only [szW, dpW, gdW] at *
      by_cases h3 : 1000 < xs.length
      · have := szs_len xs
        refine ⟨fun h => by have := h.2; omega, fun _ => l_ret (t_wide d v _ dd sz dp x4 x5 x6 s xs h1 h2 h3)⟩
      · obtain ⟨y4, y5, hr⟩ := t_tup d v (L0.map pr) dd sz dp x4 x5 x6 s xs h1 h2 h3 (by rw [List.length_map]; omega)
        have e2 : L0.map pr ++ (kids xs dd).map pr = (L0 ++ kids xs dd).map pr := by simp [bnd, G.ret, rd, opt, eS, seqI, seqL, cmpop, biop, bInt, bLen, bList, bAbs, binop, big, asg, fits, line, wEq_str, wEq_int, wEq_bl, bIsi]
        rw [e2] at hr
        have hx : pls xs = true := by simpa [bnd, G.ret, rd, opt, eS, seqI, seqL, cmpop, biop, bInt, bLen, bList, bAbs, binop, big, asg, fits, line, wEq_str, wEq_int, wEq_bl, bIsi, plW] using hw'
        have hsk : szL (L0 ++ kids xs dd) = szL L0 + szs xs := by rw [szL_app, szL_kids]
        have hmk := mxL_kids xs dd (by omega)
        have hok : okL (L0 ++ kids xs dd) ↔ okL L0 ∧ gds xs = true ∧ dd + dps xs ≤ 60 := by rw [okL_app, okL_kids xs dd (by omega)]
        obtain ⟨i1, i2⟩ := ih (L0 ++ kids xs dd) (sz + 1) (max dp dd) y4 y5 x6 f (by omega) (by omega) (by omega) (fun p hp' => by
          rcases List.mem_append.mp hp' with h | h
          · exact hp0 p h
          · obtain ⟨x, hx', rfl⟩ := List.mem_map.mp h
            exact ⟨pls_mem hx x hx', by show 1 ≤ dd + 1; omega⟩) (by omega) (by omega) (by omega)
        rw [l_next hr]
        rw [hok, hsk, mxL_app] at i1
        rw [hok, hsk] at i2
        have e3 : max (max dp dd) (max (mxL L0) (mxL (kids xs dd))) = max dp (max (mxL L0) (dd + ((dps xs + 1 : Nat) : Int) - 1)) := by omega
        have e4 : sz + 1 + ((szL L0 + szs xs : Nat) : Int) = sz + ((szL L0 + (szs xs + 1) : Nat) : Int) := by omega
        refine ⟨fun h => ?_, fun h => i2 fun q => h ?_⟩
        · obtain ⟨z4, z5, q⟩ := i1 ⟨⟨h.1.1, h.1.2.1, by have := h.1.2.2; omega⟩, by have := h.2; omega⟩
          exact ⟨z4, z5, by rw [q, e3, e4]⟩
        · exact ⟨⟨q.1.1, q.1.2.1, by have := q.1.2.2; omega⟩, by have := q.2; omega⟩
    · have hn' : ∀ xs, w ≠ .tup xs := fun xs e => hT ⟨xs, e⟩
      have hiT := isT_of hpl hn'
      have hat := atom_ok d w s hpl hlen
      have hgd : gdW w = atB w := by cases w <;> first | rfl | exact (hn' _ rfl).elim
      have hs1 : szW w = 1 := by cases w <;> first | rfl | exact (hn' _ rfl).elim
      have hd1 : dpW w = 1 := by cases w <;> first | rfl | exact (hn' _ rfl).elim
      rw [hgd, hs1, hd1]
      cases ha : atB w with
      | false =>
        rw [ha] at hat
        exact ⟨fun h => (Bool.false_ne_true h.1.2.1).elim, fun _ => l_ret (t_bad d v _ w dd sz dp x4 x5 x6 s h1 h2 hiT hat)⟩
      | true =>
        rw [ha] at hat
        obtain ⟨y4, y5, hr⟩ := t_atom d v (L0.map pr) w dd sz dp x4 x5 x6 s h1 h2 hiT hat
        obtain ⟨i1, i2⟩ := ih L0 (sz + 1) (max dp dd) y4 y5 x6 f (by omega) (by omega) (by omega) hp0 (by omega) (by omega) (by omega)
        rw [l_next hr]
        have e3 : max (max dp dd) (mxL L0) = max dp (max (mxL L0) (dd + ((1 : Nat) : Int) - 1)) := by omega
        have e4 : sz + 1 + ((szL L0 : Nat) : Int) = sz + ((szL L0 + 1 : Nat) : Int) := by omega
        refine ⟨fun h => ?_, fun h => i2 fun q => h ?_⟩
        · obtain ⟨z4, z5, q⟩ := i1 ⟨h.1.1, by have := h.2; omega⟩
          exact ⟨z4, z5, by rw [q, e3, e4]⟩
        · exact ⟨⟨q.1, rfl, by omega⟩, by have := q.2; omega⟩
end K02

set_option Elab.async false
set_option linter.all false
set_option maxRecDepth 100000
set_option maxHeartbeats 4000000
namespace K02
open G Q1
theorem evS_whl {P : Pg} {call : Nat → List W → M W} {c : E} {b : G.S} {env : Env} {s : G.ST} : evS P call (.whl c b) env s = whileS (fun env => evE P call c env) (fun env s => evS P call b env s) P.fuel env s := by rw [evS]
def okD (w : W) : Bool := gdW w && (decide (dpW w ≤ 60) && decide (szW w ≤ 1000))
theorem measured_ok (d : Nat) (w : W) (s : G.ST) (hp : plW w = true) (hs : szW w ≤ 500000) : callD pk.pg (d + 5) 6 [w] s = .ok (if okD w = true then .tup [.int (szW w), .int (dpW w)] else .non) s := by
  rw [call_eq (df := ⟨1, 7, b_measured⟩) rfl rfl]
  obtain ⟨h1, h2⟩ := m_loop d w s (szW w) [(w, 1)] 0 0 none none none 1000000 (by simp [bnd, G.ret, rd, opt, eS, item, seqI, seqL, ixOf, cmpop, biop, bInt, bLen, bList, bAbs, binop, big, asg, fits, line, wEq_str, wEq_int, wEq_bl, bIsi, isTy, szL]) hs (by omega) (by simp [bnd, G.ret, rd, opt, eS, item, seqI, seqL, ixOf, cmpop, biop, bInt, bLen, bList, bAbs, binop, big, asg, fits, line, wEq_str, wEq_int, wEq_bl, bIsi, isTy, hp]) (by omega) (by omega) (by omega)
  have hdw := dpW_pos w
  have e1 : (okL [(w, 1)] ∧ (0 : Int) + szL [(w, 1)] ≤ 1000) ↔ okD w = true := by
    have e0 : szL [(w, 1)] = szW w := by simp [bnd, G.ret, rd, opt, eS, item, seqI, seqL, ixOf, cmpop, biop, bInt, bLen, bList, bAbs, binop, big, asg, fits, line, wEq_str, wEq_int, wEq_bl, bIsi, isTy, szL]
    rw [e0]
    simp only [okL, List.mem_singleton, forall_eq, okD, Bool.and_eq_true, decide_eq_true_eq]
    constructor
    · rintro ⟨⟨a1, a2⟩, a3⟩; exact ⟨a1, by omega, by omega⟩
    · rintro ⟨a1, a2, a3⟩; exact ⟨⟨a1, by omega⟩, by omega⟩
  rw [e1] at h1 h2
  have hb : b_measured = .seq (.par3 1 2 3 (.lst (.cons (.tup (.cons (.var 0) (.cons (.k (.int 1)) .nil))) .nil)) (.k (.int 0)) (.k (.int 0))) (.seq (.whl mCond mStep) (.seq (.rt (.tup (.cons (.var 2) (.cons (.var 3) .nil)))) .nil)) := rfl
  have hf : pk.pg.fuel = 1000000 := rfl
  have e2 : ([(w, (1 : Int))] : Ln).map pr = [.tup [w, .int 1]] := rfl
  rw [e2] at h1 h2
  by_cases h : okD w = true
  · rw [if_pos h]
    obtain ⟨y4, y5, e⟩ := h1 h
    have e3 : max (0 : Int) (mxL [(w, 1)]) = dpW w := by simp only [mxL]; omega
    have e4 : (0 : Int) + szL [(w, 1)] = szW w := by simp [bnd, G.ret, rd, opt, eS, item, seqI, seqL, ixOf, cmpop, biop, bInt, bLen, bList, bAbs, binop, big, asg, fits, line, wEq_str, wEq_int, wEq_bl, bIsi, isTy, szL]
    rw [e3, e4] at e
    simp only [mLoop] at e
    simp [bnd, G.ret, rd, opt, eS, item, seqI, seqL, ixOf, cmpop, biop, bInt, bLen, bList, bAbs, binop, big, asg, fits, line, wEq_str, wEq_int, wEq_bl, bIsi, isTy, hb, evS_whl, hf, e]
  · rw [if_neg h]
    obtain ⟨env', e⟩ := h2 h
    simp only [mLoop] at e
    simp [bnd, G.ret, rd, opt, eS, item, seqI, seqL, ixOf, cmpop, biop, bInt, bLen, bList, bAbs, binop, big, asg, fits, line, wEq_str, wEq_int, wEq_bl, bIsi, isTy, hb, evS_whl, hf, e]
theorem need_ok (d : Nat) (w : W) (s : G.ST) (hp : plW w = true) (hs : szW w ≤ 500000) : callD pk.pg (d + 6) 7 [w] s = if okD w = true then .ok .non s else .exc 0 [] s := by
  rw [call_eq (df := ⟨1, 1, b_need_datum⟩) rfl rfl]
  have h := measured_ok d w s hp hs
  cases e : okD w with
  | true => rw [e, if_pos rfl] at h; simp [bnd, G.ret, rd, opt, eS, item, seqI, seqL, ixOf, cmpop, biop, bInt, bLen, bList, bAbs, binop, big, asg, fits, line, wEq_str, wEq_int, wEq_bl, bIsi, isTy, b_need_datum, h]
  | false => rw [e, if_neg Bool.false_ne_true] at h; simp [bnd, G.ret, rd, opt, eS, item, seqI, seqL, ixOf, cmpop, biop, bInt, bLen, bList, bAbs, binop, big, asg, fits, line, wEq_str, wEq_int, wEq_bl, bIsi, isTy, b_need_datum, h]
end K02

set_option Elab.async false
set_option linter.all false
set_option maxRecDepth 100000
set_option maxHeartbeats 4000000
namespace K02
open G Q1
theorem ne_nilL (xs : List W) (s : G.ST) : cmpop .ne (.lst xs) (.lst []) s = some (!xs.isEmpty) := by
  cases xs with
  | nil => rfl
  | cons x xs =>
    have e1 : eqOk 64 (.lst (x :: xs)) (.lst []) = true := by rw [eqOk]; simp [bnd, G.ret, rd, opt, eS, seqI, seqL, biop, bInt, bLen, bList, bAbs, binop, big, asg, fits, line, bIsi, isTy]
    have e2 : weq (.lst (x :: xs)) (.lst []) = false := rfl
    simp [bnd, G.ret, rd, opt, eS, seqI, seqL, biop, bInt, bLen, bList, bAbs, binop, big, asg, fits, line, bIsi, isTy, cmpop, wEq, deref, e1, e2]
theorem ne_str (x y : List Nat) (s : G.ST) : cmpop .ne (.str x) (.str y) s = some (!(x == y)) := rfl
theorem eq_str (x y : List Nat) (s : G.ST) : cmpop .eq (.str x) (.str y) s = some (x == y) := rfl
theorem le_int (x y : Int) (s : G.ST) : cmpop .le (.int x) (.int y) s = some (decide (x ≤ y)) := rfl
theorem gt_int (x y : Int) (s : G.ST) : cmpop .gt (.int x) (.int y) s = some (decide (y < x)) := rfl
theorem lt_int (x y : Int) (s : G.ST) : cmpop .lt (.int x) (.int y) s = some (decide (x < y)) := rfl
theorem eq_int (x y : Int) (s : G.ST) : cmpop .eq (.int x) (.int y) s = some (x == y) := rfl
theorem item0 (c : Nat) (l : List Nat) (s : G.ST) (hl : l.length + 1 ≤ 16777216) : item (.str (c :: l)) (.int 0) s = some (.str [c]) := by
  simp [bnd, G.ret, rd, opt, eS, seqI, seqL, biop, bInt, bLen, bList, bAbs, binop, big, asg, fits, line, bIsi, isTy, item, ixOf, hl]
theorem itemL (c : Nat) (l : List Nat) (s : G.ST) (hl : l.length + 1 ≤ 16777216) : item (.str (c :: l)) (.int (-1)) s = some (.str [(c :: l).getLast (by simp [bnd, G.ret, rd, opt, eS, seqI, seqL, biop, bInt, bLen, bList, bAbs, binop, big, asg, fits, line, bIsi, isTy])]) := by
  have h1 : ixOf (-1) (c :: l).length = some l.length := by
    simp only [ixOf, List.length_cons]
    rw [if_neg (by omega), if_pos (by omega)]
    congr 1; omega
  have h2 : (c :: l)[l.length]? = some ((c :: l).getLast (by simp [bnd, G.ret, rd, opt, eS, seqI, seqL, biop, bInt, bLen, bList, bAbs, binop, big, asg, fits, line, bIsi, isTy])) := by
    rw [List.getLast_eq_getElem]; simp [bnd, G.ret, rd, opt, eS, seqI, seqL, biop, bInt, bLen, bList, bAbs, binop, big, asg, fits, line, bIsi, isTy]
  have h3 : (c :: l).length ≤ line := by simpa [bnd, G.ret, rd, opt, eS, seqI, seqL, biop, bInt, bLen, bList, bAbs, binop, big, asg, fits, line, bIsi, isTy] using hl
  simp only [item, if_pos h3, h1, Option.bind_some, h2, Option.map_some]
theorem boolsW_any {α : Type} {l : List α} {q : α → Bool} {s : G.ST} : biop .any [.lst (l.map fun c => .bl (q c))] s = some (.bl (l.any q)) := by
  simp only [biop, bBools, seqL, Option.bind_some, boolsW_map, Option.map_some]
  simp [bnd, G.ret, rd, opt, eS, seqI, seqL, biop, bInt, bLen, bList, bAbs, binop, big, asg, fits, line, bIsi, isTy, List.any_map, Function.comp_def]
end K02

set_option Elab.async false
set_option linter.all false
set_option maxRecDepth 100000
set_option maxHeartbeats 4000000
namespace K02
open G Q1
theorem notin1 (c : Nat) (y : List Nat) (s : G.ST) : cmpop .notin (.str [c]) (.str y) s = some (!decide (c ∈ y)) := rfl
theorem pre1 (l : List Nat) (s : G.ST) (hl : l.length ≤ 16777216) : slice (.str l) none (some 1) s = some (.str (l.take 1)) := by
  cases l with
  | nil => simp [bnd, G.ret, rd, opt, eS, seqI, seqL, biop, bInt, bLen, bList, bAbs, binop, big, asg, fits, line, bIsi, isTy, slice, cut, cutIx]
  | cons c l =>
    have hl' : l.length + 1 ≤ 16777216 := by simpa [bnd, G.ret, rd, opt, eS, seqI, seqL, biop, bInt, bLen, bList, bAbs, binop, big, asg, fits, line, bIsi, isTy] using hl
    have : min 1 (l.length + 1) = 1 := by omega
    simp [bnd, G.ret, rd, opt, eS, seqI, seqL, biop, bInt, bLen, bList, bAbs, binop, big, asg, fits, line, bIsi, isTy, slice, cut, cutIx, hl', this]
theorem suf1 (l : List Nat) (s : G.ST) (hl : l.length ≤ 16777216) : slice (.str l) (some 1) none s = some (.str (l.drop 1)) := by
  cases l with
  | nil => simp [bnd, G.ret, rd, opt, eS, seqI, seqL, biop, bInt, bLen, bList, bAbs, binop, big, asg, fits, line, bIsi, isTy, slice, cut, cutIx]
  | cons c l =>
    have hl' : l.length + 1 ≤ 16777216 := by simpa [bnd, G.ret, rd, opt, eS, seqI, seqL, biop, bInt, bLen, bList, bAbs, binop, big, asg, fits, line, bIsi, isTy] using hl
    have : min 1 (l.length + 1) = 1 := by omega
    simp [bnd, G.ret, rd, opt, eS, seqI, seqL, biop, bInt, bLen, bList, bAbs, binop, big, asg, fits, line, bIsi, isTy, slice, cut, cutIx, hl', this]
/-- in ('+', '-') -/
theorem insg (l : List Nat) (s : G.ST) : cmpop .isin (.str (l.take 1)) (.tup [.str [43], .str [45]]) s = some (match l with | 43 :: _ => true | 45 :: _ => true | _ => false) := by
  cases l with
  | nil => rfl
  | cons c l =>
    have e : cmpop .isin (.str [c]) (.tup [.str [43], .str [45]]) s = some ((43 == c) || ((45 == c) || false)) := by
      simp [bnd, G.ret, rd, opt, eS, seqI, seqL, biop, bInt, bLen, bList, bAbs, binop, big, asg, fits, line, bIsi, isTy, cmpop, memOk, eqOk, isSc, weq]
    simp only [List.take_succ_cons, List.take_zero]
    rw [e]
    by_cases h1 : c = 43
    · subst h1; rfl
    · by_cases h2 : c = 45
      · subst h2; rfl
      · have n3 : (43 == c) = false := by simpa [bnd, G.ret, rd, opt, eS, seqI, seqL, biop, bInt, bLen, bList, bAbs, binop, big, asg, fits, line, bIsi, isTy] using fun h => h1 h.symm
        have n4 : (45 == c) = false := by simpa [bnd, G.ret, rd, opt, eS, seqI, seqL, biop, bInt, bLen, bList, bAbs, binop, big, asg, fits, line, bIsi, isTy] using fun h => h2 h.symm
        rw [n3, n4]
        split <;> simp_all [bnd, G.ret, rd, opt, eS, seqI, seqL, biop, bInt, bLen, bList, bAbs, binop, big, asg, fits, line, bIsi, isTy]
theorem unsg_ite (l : List Nat) : unsg l = if (match l with | 43 :: _ => true | 45 :: _ => true | _ => false) = true then l.drop 1 else l := by
  unfold unsg
  split <;> simp_all [bnd, G.ret, rd, opt, eS, seqI, seqL, biop, bInt, bLen, bList, bAbs, binop, big, asg, fits, line, bIsi, isTy]
theorem unsg_len (l : List Nat) : (unsg l).length ≤ l.length := by
  unfold unsg
  split <;> simp [bnd, G.ret, rd, opt, eS, seqI, seqL, biop, bInt, bLen, bList, bAbs, binop, big, asg, fits, line, bIsi, isTy]
end K02

set_option Elab.async false
set_option linter.all false
set_option maxRecDepth 100000
set_option maxHeartbeats 4000000
namespace K02
open G Q1
theorem unsg_mem {l : List Nat} {c : Nat} (h : c ∈ l) (h1 : c ≠ 43) (h2 : c ≠ 45) : c ∈ unsg l := by
  unfold unsg
  split <;> simp_all [bnd, G.ret, rd, opt, eS, seqI, seqL, biop, bInt, bLen, bList, bAbs, binop, big, asg, fits, line, bIsi, isTy]
theorem wordB_of {l : List Nat} {c : Nat} (h : c ∈ l) (h1 : c ≠ 43) (h2 : c ≠ 45) (h3 : c ∉ figs) (h4 : ∀ x ∈ l, x ∈ signs) (h5 : l.length ≤ 20) (h6 : l ≠ nil3) : wordB l = true := by
  have e1 : (l == []) = false := by simpa [bnd, G.ret, rd, opt, eS, seqI, seqL, biop, bInt, bLen, bList, bAbs, binop, big, asg, fits, line, bIsi, isTy] using List.ne_nil_of_mem h
  have e2 : (l.all fun c => decide (c ∈ signs)) = true := by simpa [bnd, G.ret, rd, opt, eS, seqI, seqL, biop, bInt, bLen, bList, bAbs, binop, big, asg, fits, line, bIsi, isTy] using h4
  have e3 : ((unsg l).all fun c => decide (c ∈ figs)) = false := by
    rw [List.all_eq_false]
    exact ⟨c, unsg_mem h h1 h2, by simpa [bnd, G.ret, rd, opt, eS, seqI, seqL, biop, bInt, bLen, bList, bAbs, binop, big, asg, fits, line, bIsi, isTy] using h3⟩
  have e4 : (l == nil3) = false := by simpa [bnd, G.ret, rd, opt, eS, seqI, seqL, biop, bInt, bLen, bList, bAbs, binop, big, asg, fits, line, bIsi, isTy] using h6
  simp [bnd, G.ret, rd, opt, eS, seqI, seqL, biop, bInt, bLen, bList, bAbs, binop, big, asg, fits, line, bIsi, isTy, wordB, madeB, figB, e1, e2, e3, e4, h5]
theorem str_pre (f : List Nat) (s : G.ST) (h : f.length ≤ 1000) : slice (.str f) none (some (-1)) s = some (.str (f.take (f.length - 1))) := by
  have h1 : cutIx f.length f.length (some (-1)) = f.length - 1 := by
    simp only [cutIx]; rw [if_pos (by omega)]; omega
  have h2 : f.length ≤ line := by unfold line; omega
  simp only [slice, if_pos h2, cut, h1, cutIx]
  simp [bnd, G.ret, rd, opt, eS, seqI, seqL, biop, bInt, bLen, bList, bAbs, binop, big, asg, fits, line, bIsi, isTy]
  omega
def sigs2 : List Nat := [97, 98, 99, 100, 101, 102, 103, 104, 105, 106, 107, 108, 109, 110, 111, 112, 113, 114, 115, 116, 117, 118, 119, 120, 121, 122, 48, 49, 50, 51, 52, 53, 54, 55, 56, 57, 45, 42, 43, 47, 60, 62, 61, 33, 63, 38, 58, 97, 98, 48, 49]
theorem sigs2_ok : ∀ c ∈ sigs2, c ∈ signs := by decide
theorem lawword_ok (d : Nat) (a b : Int) (t : G.ST) : ∃ l a' b', wordB l = true ∧ l.length ≤ 20 ∧ callD pk.pg (d + 3) 27 [.ref 0] (cup a b t) = .ok (.str l) (cup a' b' t) := by
  obtain ⟨r, a1, b1, r1, r2, er⟩ := roll (d + 1) 6 a b t (by omega) (by omega)
  have hI : evI pk.pg (callD pk.pg (d + 2)) (.rng (.cons (.bin .add (.k (.int 1)) (.call 25 (.cons (.var 0) (.cons (.k (.int 6)) .nil)))) .nil)) [some (.ref 0), some (.str []), none] (cup a b t) = .ok (.row (rngW 0 (1 + r).toNat)) (cup a1 b1 t) := by
    have q : -small < 1 + r ∧ 1 + r < small := by unfold small; omega
    simp [bnd, G.ret, rd, opt, eS, seqI, seqL, biop, bInt, bLen, bList, bAbs, binop, big, asg, fits, line, bIsi, isTy, er, rngOf, q]
  have hlen : ∀ n lo, (rngW lo n).length = n := fun n => by
    induction n with
    | zero => intro lo; rfl
    | succ n ih => intro lo; simp [bnd, G.ret, rd, opt, eS, seqI, seqL, biop, bInt, bLen, bList, bAbs, binop, big, asg, fits, line, bIsi, isTy, rngW, ih]
  obtain ⟨env', s2, ef, ⟨a2, b2, x2, f, hs, he, hf1, hf2⟩⟩ := for_inv (t := .v 2) (b := .seq (.asg (.v 1) (.bin .add (.var 1) (.call 26 (.cons (.var 0) (.cons (.k (.str sigs2)) .nil))))) .nil) hI
    (fun j env s => ∃ a b x2 f, s = cup a b t ∧ env = [some (.ref 0), some (.str f), x2] ∧ f.length = j ∧ ∀ c ∈ f, c ∈ signs) ⟨a1, b1, none, [], rfl, rfl, rfl, by simp [bnd, G.ret, rd, opt, eS, seqI, seqL, biop, bInt, bLen, bList, bAbs, binop, big, asg, fits, line, bIsi, isTy]⟩
    (fun j x env s hj ⟨a, b, x2, f, hs, he, hf1, hf2⟩ => by
      subst hs; subst he
      have hjl : j < (1 + r).toNat := by
        have := (List.getElem?_eq_some_iff.mp hj).1
        rwa [hlen] at this
      obtain ⟨c, a', b', hc, e⟩ := somS d sigs2 a b t (by decide) (by decide)
      have hl : f.length + 1 ≤ 16777216 := by omega
      refine ⟨[some (.ref 0), some (.str f), some x], [some (.ref 0), some (.str (f ++ [c])), some x], cup a' b' t, by simp [bnd, G.ret, rd, opt, eS, seqI, seqL, biop, bInt, bLen, bList, bAbs, binop, big, asg, fits, line, bIsi, isTy], by simp [bnd, G.ret, rd, opt, eS, seqI, seqL, biop, bInt, bLen, bList, bAbs, binop, big, asg, fits, line, bIsi, isTy, e, hl], a', b', some x, f ++ [c], rfl, rfl, by simp [bnd, G.ret, rd, opt, eS, seqI, seqL, biop, bInt, bLen, bList, bAbs, binop, big, asg, fits, line, bIsi, isTy, hf1], fun y hy => ?_⟩
      rcases List.mem_append.mp hy with h | h
      · exact hf2 y h
      · rw [List.mem_singleton.mp h]; exact sigs2_ok c hc)
  subst hs; subst he
  rw [hlen] at hf1
  have hfl : 1 ≤ f.length ∧ f.length ≤ 6 := by omega
  obtain ⟨i, x, a3, b3, hx, ex⟩ := somL d [.str (f.take (f.length - 1) ++ [120]), .str (f.take (f.length - 1) ++ [120]), .str ([42] ++ f ++ [42]), .str [116], .str [43], .str [113, 117, 111, 116, 101], .str [102, 117, 110, 99, 116, 105, 111, 110], .str [97, 45, 98]] a2 b2 t (by simp [bnd, G.ret, rd, opt, eS, seqI, seqL, biop, bInt, bLen, bList, bAbs, binop, big, asg, fits, line, bIsi, isTy]) (by simp [bnd, G.ret, rd, opt, eS, seqI, seqL, biop, bInt, bLen, bList, bAbs, binop, big, asg, fits, line, bIsi, isTy])
  have hw1 : wordB (f.take (f.length - 1) ++ [120]) = true := by
    refine wordB_of (c := 120) (by simp [bnd, G.ret, rd, opt, eS, seqI, seqL, biop, bInt, bLen, bList, bAbs, binop, big, asg, fits, line, bIsi, isTy]) (by decide) (by decide) (by decide) (fun y hy => ?_) (by simp [bnd, G.ret, rd, opt, eS, seqI, seqL, biop, bInt, bLen, bList, bAbs, binop, big, asg, fits, line, bIsi, isTy]; omega) (fun h => ?_)
    · rcases List.mem_append.mp hy with h | h
      · exact hf2 y (List.mem_of_mem_take h)
      · rw [List.mem_singleton.mp h]; decide
    · have := congrArg List.getLast? h
      simp [bnd, G.ret, rd, opt, eS, seqI, seqL, biop, bInt, bLen, bList, bAbs, binop, big, asg, fits, line, bIsi, isTy, nil3] at this
  have hw2 : wordB ([42] ++ f ++ [42]) = true := by
    refine wordB_of (c := 42) (by simp [bnd, G.ret, rd, opt, eS, seqI, seqL, biop, bInt, bLen, bList, bAbs, binop, big, asg, fits, line, bIsi, isTy]) (by decide) (by decide) (by decide) (fun y hy => ?_) (by simp [bnd, G.ret, rd, opt, eS, seqI, seqL, biop, bInt, bLen, bList, bAbs, binop, big, asg, fits, line, bIsi, isTy]; omega) (fun h => ?_)
    · simp only [List.mem_append, List.mem_singleton] at hy
      rcases hy with (h | h) | h
      · rw [h]; decide
      · exact hf2 y h
      · rw [h]; decide
    · have := congrArg List.head? h
      simp [bnd, G.ret, rd, opt, eS, seqI, seqL, biop, bInt, bLen, bList, bAbs, binop, big, asg, fits, line, bIsi, isTy, nil3] at this
  have hxs : ∃ l, x = .str l ∧ wordB l = true ∧ l.length ≤ 20 := by
    have hm := List.mem_of_getElem? hx
    simp only [List.mem_cons, List.not_mem_nil, or_false] at hm
    rcases hm with h | h | h | h | h | h | h | h
    · exact ⟨_, h, hw1, by simp [bnd, G.ret, rd, opt, eS, seqI, seqL, biop, bInt, bLen, bList, bAbs, binop, big, asg, fits, line, bIsi, isTy]; omega⟩
    · exact ⟨_, h, hw1, by simp [bnd, G.ret, rd, opt, eS, seqI, seqL, biop, bInt, bLen, bList, bAbs, binop, big, asg, fits, line, bIsi, isTy]; omega⟩
    · exact ⟨_, h, hw2, by simp [bnd, G.ret, rd, opt, eS, seqI, seqL, biop, bInt, bLen, bList, bAbs, binop, big, asg, fits, line, bIsi, isTy]; omega⟩
    all_goals exact ⟨_, h, by decide, by decide⟩
  obtain ⟨l, rfl, h1, h2⟩ := hxs
  refine ⟨l, a3, b3, h1, h2, ?_⟩
  rw [call_eq (df := ⟨1, 3, b__law_word⟩) rfl rfl]
  have hb : b__law_word = .seq (.asg (.v 1) (.k (.str []))) (.seq (.forr (.v 2) (.rng (.cons (.bin .add (.k (.int 1)) (.call 25 (.cons (.var 0) (.cons (.k (.int 6)) .nil)))) .nil)) (.seq (.asg (.v 1) (.bin .add (.var 1) (.call 26 (.cons (.var 0) (.cons (.k (.str sigs2)) .nil))))) .nil)) (.seq (.rt (.call 26 (.cons (.var 0) (.cons (.lst (.cons (.bin .add (.sl (.var 1) .no (.itr (.neg (.k (.int 1))))) (.k (.str [120]))) (.cons (.bin .add (.sl (.var 1) .no (.itr (.neg (.k (.int 1))))) (.k (.str [120]))) (.cons (.bin .add (.bin .add (.k (.str [42])) (.var 1)) (.k (.str [42]))) (.cons (.k (.str [116])) (.cons (.k (.str [43])) (.cons (.k (.str [113, 117, 111, 116, 101])) (.cons (.k (.str [102, 117, 110, 99, 116, 105, 111, 110])) (.cons (.k (.str [97, 45, 98])) .nil))))))))) .nil)))) .nil)) := rfl
  rw [hb]
  have l1 : f.length ≤ 1000 := by omega
  have l2 : f.length - 1 + 1 ≤ 16777216 := by omega
  have l2' : min (f.length - 1) f.length + 1 ≤ 16777216 := by omega
  have l3 : 1 + f.length ≤ 16777216 := by omega
  have l4 : 1 + f.length + 1 ≤ 16777216 := by omega
  have l5 : f.length + 1 ≤ 16777216 := by omega
  have l6 : f.length + 1 + 1 ≤ 16777216 := by omega
  simp only [List.append_assoc, List.singleton_append, List.cons_append, List.nil_append] at ex
  simp [bnd, G.ret, rd, opt, eS, seqI, seqL, biop, bInt, bLen, bList, bAbs, binop, big, asg, fits, line, bIsi, isTy, ef, str_pre, l1, l2, l2', l3, l4, l5, l6, ex]
end K02

set_option Elab.async false
set_option linter.all false
set_option maxRecDepth 100000
set_option maxHeartbeats 4000000
namespace K02
open G Q1
theorem rngW_len : ∀ n lo, (rngW lo n).length = n := fun n => by
  induction n with
  | zero => intro lo; rfl
  | succ n ih => intro lo; simp [bnd, G.ret, rd, opt, eS, seqI, seqL, biop, bInt, bLen, bList, bAbs, binop, big, asg, fits, line, bIsi, isTy, rngW, ih]
theorem lawtext_ok (d : Nat) (a b : Int) (t : G.ST) : ∃ l a' b', textB l = true ∧ l.length ≤ 20 ∧ callD pk.pg (d + 3) 28 [.ref 0] (cup a b t) = .ok (.str l) (cup a' b' t) := by
  obtain ⟨r, a1, b1, r1, r2, er⟩ := roll (d + 1) 5 a b t (by omega) (by omega)
  have hI : evI pk.pg (callD pk.pg (d + 2)) (.rng (.cons (.call 25 (.cons (.var 0) (.cons (.k (.int 5)) .nil))) .nil)) [some (.ref 0), some (.str []), none] (cup a b t) = .ok (.row (rngW 0 r.toNat)) (cup a1 b1 t) := by
    have q : -small < r ∧ r < small := by unfold small; omega
    simp [bnd, G.ret, rd, opt, eS, seqI, seqL, biop, bInt, bLen, bList, bAbs, binop, big, asg, fits, line, bIsi, isTy, er, rngOf, q]
  obtain ⟨env', s2, ef, ⟨a2, b2, x2, f, hs, he, hf1, hf2⟩⟩ := for_inv (t := .v 2) (b := .seq (.asg (.v 1) (.bin .add (.var 1) (.call 26 (.cons (.var 0) (.cons (.lst (.cons (.k (.str [97])) (.cons (.k (.str [32])) (.cons (.k (.str [34])) (.cons (.k (.str [92])) (.cons (.k (.str [40])) (.cons (.k (.str [39])) (.cons (.k (.str [10])) (.cons (.k (.str [126])) (.cons (.k (.str [90])) (.cons (.k (.str [57])) (.cons (.k (.str [35, 39])) .nil)))))))))))) .nil))))) .nil) hI
    (fun j env s => ∃ a b x2 f, s = cup a b t ∧ env = [some (.ref 0), some (.str f), x2] ∧ f.length ≤ 2 * j ∧ ∀ c ∈ f, tsig c = true) ⟨a1, b1, none, [], rfl, rfl, by simp [bnd, G.ret, rd, opt, eS, seqI, seqL, biop, bInt, bLen, bList, bAbs, binop, big, asg, fits, line, bIsi, isTy], by simp [bnd, G.ret, rd, opt, eS, seqI, seqL, biop, bInt, bLen, bList, bAbs, binop, big, asg, fits, line, bIsi, isTy]⟩
    (fun j x env s hj ⟨a, b, x2, f, hs, he, hf1, hf2⟩ => by
      subst hs; subst he
      have hjl : j < r.toNat := by
        have := (List.getElem?_eq_some_iff.mp hj).1
        rwa [rngW_len] at this
      obtain ⟨i, y, a', b', hy, e⟩ := somL d [.str [97], .str [32], .str [34], .str [92], .str [40], .str [39], .str [10], .str [126], .str [90], .str [57], .str [35, 39]] a b t (by simp [bnd, G.ret, rd, opt, eS, seqI, seqL, biop, bInt, bLen, bList, bAbs, binop, big, asg, fits, line, bIsi, isTy]) (by simp [bnd, G.ret, rd, opt, eS, seqI, seqL, biop, bInt, bLen, bList, bAbs, binop, big, asg, fits, line, bIsi, isTy])
      obtain ⟨g, rfl, g1, g2⟩ : ∃ g, y = .str g ∧ g.length ≤ 2 ∧ ∀ c ∈ g, tsig c = true := by
        have hm := List.mem_of_getElem? hy
        simp only [List.mem_cons, List.not_mem_nil, or_false] at hm
        rcases hm with h | h | h | h | h | h | h | h | h | h | h <;> exact ⟨_, h, by decide, by decide⟩
      have hl : f.length + g.length ≤ 16777216 := by omega
      refine ⟨[some (.ref 0), some (.str f), some x], [some (.ref 0), some (.str (f ++ g)), some x], cup a' b' t, by simp [bnd, G.ret, rd, opt, eS, seqI, seqL, biop, bInt, bLen, bList, bAbs, binop, big, asg, fits, line, bIsi, isTy], by simp [bnd, G.ret, rd, opt, eS, seqI, seqL, biop, bInt, bLen, bList, bAbs, binop, big, asg, fits, line, bIsi, isTy, e, hl], a', b', some x, f ++ g, rfl, rfl, by simp [bnd, G.ret, rd, opt, eS, seqI, seqL, biop, bInt, bLen, bList, bAbs, binop, big, asg, fits, line, bIsi, isTy]; omega, fun y hy => ?_⟩
      rcases List.mem_append.mp hy with h | h
      · exact hf2 y h
      · exact g2 y h)
  subst hs; subst he
  rw [rngW_len] at hf1
  refine ⟨34 :: f, a2, b2, ?_, by simp [bnd, G.ret, rd, opt, eS, seqI, seqL, biop, bInt, bLen, bList, bAbs, binop, big, asg, fits, line, bIsi, isTy]; omega, ?_⟩
  · have e1 : (f.all fun c => c == 10 || (decide (32 ≤ c) && decide (c ≤ 126))) = true := List.all_eq_true.mpr hf2
    have e2 : f.length + 1 ≤ 401 := by omega
    simp only [textB, List.take_succ_cons, List.take_zero, List.drop_succ_cons, List.drop_zero, e1, List.length_cons]
    simp [bnd, G.ret, rd, opt, eS, seqI, seqL, biop, bInt, bLen, bList, bAbs, binop, big, asg, fits, line, bIsi, isTy, e2]
  · rw [call_eq (df := ⟨1, 3, b__law_text⟩) rfl rfl]
    have l3 : 1 + f.length ≤ 16777216 := by omega
    simp only [b__law_text]
    simp [bnd, G.ret, rd, opt, eS, seqI, seqL, biop, bInt, bLen, bList, bAbs, binop, big, asg, fits, line, bIsi, isTy, ef, l3]
theorem dps_mem : ∀ {xs : List W} {x : W}, x ∈ xs → dpW x ≤ dps xs
  | y :: ys, x, h => by
    simp only [dps]
    rcases List.mem_cons.mp h with e | e
    · rw [e]; omega
    · have := dps_mem e; omega
theorem szs_mem : ∀ {xs : List W} {x : W}, x ∈ xs → szW x ≤ szs xs
  | y :: ys, x, h => by
    simp only [szs]
    rcases List.mem_cons.mp h with e | e
    · rw [e]; omega
    · have := szs_mem e; omega
end K02

set_option Elab.async false
set_option linter.all false
set_option maxRecDepth 100000
set_option maxHeartbeats 4000000
namespace K02
open G Q1
def bnd4 : Nat → Nat
  | 0 => 1
  | n + 1 => 1 + 4 * bnd4 n
theorem bnd4_pos : ∀ n, 1 ≤ bnd4 n
  | 0 => Nat.le_refl _
  | n + 1 => by simp only [bnd4]; omega
def Good (n : Nat) (w : W) : Prop := gdW w = true ∧ plW w = true ∧ dpW w ≤ n + 1 ∧ szW w ≤ bnd4 n
theorem good_atom {n : Nat} {w : W} (h1 : gdW w = true) (h2 : plW w = true) (h3 : szW w = 1) (h4 : dpW w = 1) : Good n w := ⟨h1, h2, by omega, by have := bnd4_pos n; omega⟩
theorem good_int {n : Nat} {i : Int} (h1 : -1000000000000 ≤ i) (h2 : i ≤ 1000000000000) : Good n (.int i) := good_atom (by simp [bnd, G.ret, rd, opt, eS, seqI, seqL, biop, bInt, bLen, bList, bAbs, binop, big, asg, fits, line, bIsi, isTy, bTuple, gdW, atB, h1, h2]) rfl rfl rfl
theorem good_str {n : Nat} {l : List Nat} (h : wordB l = true ∨ textB l = true) (hl : l.length ≤ 20) : Good n (.str l) := good_atom (by simp only [gdW, atB]; rcases h with h | h <;> simp [bnd, G.ret, rd, opt, eS, seqI, seqL, biop, bInt, bLen, bList, bAbs, binop, big, asg, fits, line, bIsi, isTy, bTuple, h]) (by simp [bnd, G.ret, rd, opt, eS, seqI, seqL, biop, bInt, bLen, bList, bAbs, binop, big, asg, fits, line, bIsi, isTy, bTuple, plW, plain, okLen]; omega) rfl rfl
theorem gds_all : ∀ {xs : List W}, (∀ x ∈ xs, gdW x = true) → gds xs = true
  | [], _ => rfl
  | x :: xs, h => by simp only [gds, h x List.mem_cons_self, gds_all fun y hy => h y (List.mem_cons_of_mem x hy), Bool.and_self]
theorem pls_all : ∀ {xs : List W}, (∀ x ∈ xs, plW x = true) → pls xs = true
  | [], _ => rfl
  | x :: xs, h => by simp only [pls, h x List.mem_cons_self, pls_all fun y hy => h y (List.mem_cons_of_mem x hy), Bool.and_self]
theorem dps_all {n : Nat} : ∀ {xs : List W}, (∀ x ∈ xs, dpW x ≤ n) → dps xs ≤ n
  | [], _ => Nat.zero_le _
  | x :: xs, h => by
    have := h x List.mem_cons_self
    have := dps_all fun y hy => h y (List.mem_cons_of_mem x hy)
    simp only [dps]; omega
theorem szs_all {n : Nat} : ∀ {xs : List W}, (∀ x ∈ xs, szW x ≤ n) → szs xs ≤ xs.length * n
  | [], _ => Nat.zero_le _
  | x :: xs, h => by
    have := h x List.mem_cons_self
    have := szs_all fun y hy => h y (List.mem_cons_of_mem x hy)
    simp only [szs, List.length_cons, Nat.succ_mul]; omega
theorem good_tup {n : Nat} {xs : List W} (h : ∀ x ∈ xs, Good n x) (hl : xs.length ≤ 4) : Good (n + 1) (.tup xs) := by
  refine ⟨?_, ?_, ?_, ?_⟩
  · simp only [gdW]; exact gds_all fun x hx => (h x hx).1
  · simp only [plW]; exact pls_all fun x hx => (h x hx).2.1
  · simp only [dpW]; have := dps_all fun x hx => (h x hx).2.2.1; omega
  · simp only [szW, bnd4]
    have := szs_all fun x hx => (h x hx).2.2.2
    have : xs.length * bnd4 n ≤ 4 * bnd4 n := Nat.mul_le_mul_right _ hl
    omega
def dRest : G.S := match b__law_datum with
  | .seq _ r => r
  | _ => .nil
theorem d_low (D : Nat) (m : Nat) (n r : Int) (x3 : Option W) (a b : Int) (t : G.ST) (r0 : 0 ≤ r) (r5 : r < 5) : ∃ w env' a' b', Good m w ∧ evS pk.pg (callD pk.pg (D + 3)) dRest [some (.ref 0), some (.int n), some (.int r), x3] (cup a b t) = .ok (.rt w) env' (cup a' b' t) := by
  by_cases h2 : r < 2
  · obtain ⟨y1, a1, b1, p1, q1, e1⟩ := roll (D + 2) 10 a b t (by omega) (by omega)
    obtain ⟨y2, a2, b2, p2, q2, e2⟩ := roll (D + 2) 2000 a1 b1 t (by omega) (by omega)
    obtain ⟨y3, a3, b3, p3, q3, e3⟩ := roll (D + 2) 1000000000000 a2 b2 t (by omega) (by omega)
    obtain ⟨i, x, a4, b4, hx, e4⟩ := somL (D + 1) [.int y1, .int (-y2), .int 1000000000000, .int (-1000000000000), .int y3] a3 b3 t (by simp [bnd, G.ret, rd, opt, eS, seqI, seqL, biop, bInt, bLen, bList, bAbs, binop, big, asg, fits, line, bIsi, isTy, bTuple]) (by simp [bnd, G.ret, rd, opt, eS, seqI, seqL, biop, bInt, bLen, bList, bAbs, binop, big, asg, fits, line, bIsi, isTy, bTuple])
    refine ⟨x, [some (.ref 0), some (.int n), some (.int r), x3], a4, b4, ?_, ?_⟩
    · have hm := List.mem_of_getElem? hx
      simp only [List.mem_cons, List.not_mem_nil, or_false] at hm
      rcases hm with h | h | h | h | h <;> rw [h] <;> exact good_int (by omega) (by omega)
    · simp only [dRest, b__law_datum]
      simp [bnd, G.ret, rd, opt, eS, seqI, seqL, biop, bInt, bLen, bList, bAbs, binop, big, asg, fits, line, bIsi, isTy, bTuple, lt_int, h2, e1, e2, e3, e4]
  by_cases h4 : r < 4
  · obtain ⟨y1, a1, b1, p1, q1, e1⟩ := roll (D + 2) 3 a b t (by omega) (by omega)
    by_cases hy : y1 = 0
    · obtain ⟨l, a2, b2, w1, w2, e2⟩ := lawtext_ok D a1 b1 t
      refine ⟨.str l, [some (.ref 0), some (.int n), some (.int r), x3], a2, b2, good_str (.inr w1) w2, ?_⟩
      subst hy
      simp only [dRest, b__law_datum]
      simp [bnd, G.ret, rd, opt, eS, seqI, seqL, biop, bInt, bLen, bList, bAbs, binop, big, asg, fits, line, bIsi, isTy, bTuple, lt_int, eq_int, h2, h4, e1, e2]
    · obtain ⟨l, a2, b2, w1, w2, e2⟩ := lawword_ok D a1 b1 t
      refine ⟨.str l, [some (.ref 0), some (.int n), some (.int r), x3], a2, b2, good_str (.inl w1) w2, ?_⟩
      have hy' : (y1 == 0) = false := by simpa [bnd, G.ret, rd, opt, eS, seqI, seqL, biop, bInt, bLen, bList, bAbs, binop, big, asg, fits, line, bIsi, isTy, bTuple] using hy
      simp only [dRest, b__law_datum]
      simp [bnd, G.ret, rd, opt, eS, seqI, seqL, biop, bInt, bLen, bList, bAbs, binop, big, asg, fits, line, bIsi, isTy, bTuple, lt_int, eq_int, h2, h4, e1, e2, hy']
  · have h5 : r = 4 := by omega
    refine ⟨.tup [], [some (.ref 0), some (.int n), some (.int r), x3], a, b, ⟨rfl, rfl, by simp [bnd, G.ret, rd, opt, eS, seqI, seqL, biop, bInt, bLen, bList, bAbs, binop, big, asg, fits, line, bIsi, isTy, bTuple, dpW, dps], by have := bnd4_pos m; simp [bnd, G.ret, rd, opt, eS, seqI, seqL, biop, bInt, bLen, bList, bAbs, binop, big, asg, fits, line, bIsi, isTy, bTuple, szW, szs]; omega⟩, ?_⟩
    subst h5
    simp only [dRest, b__law_datum]
    simp [bnd, G.ret, rd, opt, eS, seqI, seqL, biop, bInt, bLen, bList, bAbs, binop, big, asg, fits, line, bIsi, isTy, bTuple, lt_int, eq_int]
theorem datum_split {D : Nat} {n : Int} {s s' : G.ST} {w : W} {env' : Env} {r : Int} {s1 : G.ST} (h1 : callD pk.pg D 25 [.ref 0, .int (if 0 < n then 9 else 5)] s = .ok (.int r) s1) (h2 : evS pk.pg (callD pk.pg D) dRest [some (.ref 0), some (.int n), some (.int r), none] s1 = .ok (.rt w) env' s') : callD pk.pg (D + 1) 29 [.ref 0, .int n] s = .ok w s' := by
  rw [call_eq (df := ⟨2, 4, b__law_datum⟩) rfl rfl]
  have hb : b__law_datum = .seq (.asg (.v 2) (.call 25 (.cons (.var 0) (.cons (.ife (.cmp .gt (.var 1) (.k (.int 0))) (.k (.int 9)) (.k (.int 5))) .nil)))) dRest := rfl
  rw [hb]
  by_cases hn : 0 < n
  · rw [if_pos hn] at h1; simp [bnd, G.ret, rd, opt, eS, seqI, seqL, biop, bInt, bLen, bList, bAbs, binop, big, asg, fits, line, bIsi, isTy, bTuple, gt_int, hn, h1, h2]
  · rw [if_neg hn] at h1; simp [bnd, G.ret, rd, opt, eS, seqI, seqL, biop, bInt, bLen, bList, bAbs, binop, big, asg, fits, line, bIsi, isTy, bTuple, gt_int, hn, h1, h2]
theorem lawdatum_ok (d : Nat) (t : G.ST) : ∀ (n : Nat) (a b : Int), ∃ w a' b', Good n w ∧ callD pk.pg (d + n + 4) 29 [.ref 0, .int n] (cup a b t) = .ok w (cup a' b' t) := by
  intro n
  induction n with
  | zero =>
    intro a b
    obtain ⟨r, a1, b1, r1, r2, er⟩ := roll (d + 2) 5 a b t (by omega) (by omega)
    obtain ⟨w, env', a2, b2, g, e⟩ := d_low d 0 0 r none a1 b1 t r1 r2
    exact ⟨w, a2, b2, g, datum_split (D := d + 3) (n := 0) er e⟩
  | succ n ih =>
    intro a b
    obtain ⟨r, a1, b1, r1, r2, er⟩ := roll (d + n + 3) 9 a b t (by omega) (by omega)
    have hD : d + (n + 1) + 4 = (d + n + 4) + 1 := by omega
    have hn : ((n + 1 : Nat) : Int) = (n : Int) + 1 := by omega
    have hif : (if (0 : Int) < (n : Int) + 1 then (9 : Int) else 5) = 9 := if_pos (by omega)
    rw [hD, hn]
    by_cases h5 : r < 5
    · obtain ⟨w, env', a2, b2, g, e⟩ := d_low (d + n + 1) (n + 1) ((n : Int) + 1) r none a1 b1 t r1 h5
      exact ⟨w, a2, b2, g, datum_split (D := d + n + 4) (n := (n : Int) + 1) (by rw [hif]; exact er) e⟩
    have n2 : ¬ r < 2 := by omega
    have n4 : ¬ r < 4 := by omega
    have n4' : (r == 4) = false := by simpa [bnd, G.ret, rd, opt, eS, seqI, seqL, biop, bInt, bLen, bList, bAbs, binop, big, asg, fits, line, bIsi, isTy, bTuple] using show r ≠ 4 by omega
    by_cases h6 : r = 5
    · obtain ⟨i, x, a2, b2, hx, ex⟩ := somL (d + n + 2) [.str [113, 117, 111, 116, 101], .str [102, 117, 110, 99, 116, 105, 111, 110]] a1 b1 t (by simp [bnd, G.ret, rd, opt, eS, seqI, seqL, biop, bInt, bLen, bList, bAbs, binop, big, asg, fits, line, bIsi, isTy, bTuple]) (by simp [bnd, G.ret, rd, opt, eS, seqI, seqL, biop, bInt, bLen, bList, bAbs, binop, big, asg, fits, line, bIsi, isTy, bTuple])
      obtain ⟨w, a3, b3, g, e⟩ := ih a2 b2
      have gx : Good n x := by
        have hm := List.mem_of_getElem? hx
        simp only [List.mem_cons, List.not_mem_nil, or_false] at hm
        rcases hm with h | h <;> rw [h] <;> exact good_str (.inl (by decide)) (by decide)
      refine ⟨.tup [x, w], a3, b3, good_tup (by intro y hy; simp only [List.mem_cons, List.not_mem_nil, or_false] at hy; rcases hy with rfl | rfl <;> assumption) (by simp [bnd, G.ret, rd, opt, eS, seqI, seqL, biop, bInt, bLen, bList, bAbs, binop, big, asg, fits, line, bIsi, isTy, bTuple]), datum_split (D := d + n + 4) (n := (n : Int) + 1) (r := r) (s1 := cup a1 b1 t) (env' := [some (.ref 0), some (.int ((n : Int) + 1)), some (.int r), none]) (by rw [hif]; exact er) ?_⟩
      subst h6
      simp only [dRest, b__law_datum]
      simp [bnd, G.ret, rd, opt, eS, seqI, seqL, biop, bInt, bLen, bList, bAbs, binop, big, asg, fits, line, bIsi, isTy, bTuple, lt_int, eq_int, ex, e]
    · have n5' : (r == 5) = false := by simpa [bnd, G.ret, rd, opt, eS, seqI, seqL, biop, bInt, bLen, bList, bAbs, binop, big, asg, fits, line, bIsi, isTy, bTuple] using h6
      obtain ⟨m, a2, b2, m1, m2, em⟩ := roll (d + n + 3) 5 a1 b1 t (by omega) (by omega)
      have q : -small < m ∧ m < small := by unfold small; omega
      obtain ⟨ys, s2, el, ⟨a3, b3, hs, hg, hl⟩⟩ := lc_inv (P := pk.pg) (call := callD pk.pg (d + n + 4)) (env := [some (.ref 0), some (.int ((n : Int) + 1)), some (.int r), none]) (s := cup a1 b1 t) (t := .v 3) (it := .rng (.cons (.call 25 (.cons (.var 0) (.cons (.k (.int 5)) .nil))) .nil)) (ifs := .nil) (e := .call 29 (.cons (.var 0) (.cons (.bin .sub (.var 1) (.k (.int 1))) .nil))) (own := [3]) (xs := rngW 0 m.toNat) (s' := cup a2 b2 t) (by simp [bnd, G.ret, rd, opt, eS, seqI, seqL, biop, bInt, bLen, bList, bAbs, binop, big, asg, fits, line, bIsi, isTy, bTuple, em, rngOf, q])
        (fun j acc s => ∃ a b, s = cup a b t ∧ (∀ x ∈ acc, Good n x) ∧ acc.length ≤ j) ⟨a2, b2, rfl, by simp [bnd, G.ret, rd, opt, eS, seqI, seqL, biop, bInt, bLen, bList, bAbs, binop, big, asg, fits, line, bIsi, isTy, bTuple], by simp [bnd, G.ret, rd, opt, eS, seqI, seqL, biop, bInt, bLen, bList, bAbs, binop, big, asg, fits, line, bIsi, isTy, bTuple]⟩
        (fun j x acc s hj ⟨a, b, hs, hg, hl⟩ => by
          subst hs
          obtain ⟨w, a', b', g, e⟩ := ih a b
          refine ⟨[some (.ref 0), some (.int ((n : Int) + 1)), some (.int r), some x], by simp [bnd, G.ret, rd, opt, eS, seqI, seqL, biop, bInt, bLen, bList, bAbs, binop, big, asg, fits, line, bIsi, isTy, bTuple, wipes], .inr ⟨cup a b t, w, cup a' b' t, by simp [bnd, G.ret, rd, opt, eS, seqI, seqL, biop, bInt, bLen, bList, bAbs, binop, big, asg, fits, line, bIsi, isTy, bTuple], by simp [bnd, G.ret, rd, opt, eS, seqI, seqL, biop, bInt, bLen, bList, bAbs, binop, big, asg, fits, line, bIsi, isTy, bTuple, e], a', b', rfl, fun y hy => ?_, by simp [bnd, G.ret, rd, opt, eS, seqI, seqL, biop, bInt, bLen, bList, bAbs, binop, big, asg, fits, line, bIsi, isTy, bTuple]; omega⟩⟩
          rcases List.mem_append.mp hy with h | h
          · exact hg y h
          · rw [List.mem_singleton.mp h]; exact g)
        (fun ys s ⟨a, b, _, _, hl⟩ => by rw [rngW_len] at hl; unfold line; omega)
      rw [rngW_len] at hl
      subst hs
      refine ⟨.tup ys, a3, b3, good_tup hg (by omega), datum_split (D := d + n + 4) (n := (n : Int) + 1) (r := r) (s1 := cup a1 b1 t) (env' := [some (.ref 0), some (.int ((n : Int) + 1)), some (.int r), none]) (by rw [hif]; exact er) ?_⟩
      simp only [dRest, b__law_datum]
      simp [bnd, G.ret, rd, opt, eS, seqI, seqL, biop, bInt, bLen, bList, bAbs, binop, big, asg, fits, line, bIsi, isTy, bTuple, lt_int, eq_int, n2, n4, n4', n5', el]
end K02

set_option Elab.async false
set_option linter.all false
set_option maxRecDepth 100000
set_option maxHeartbeats 4000000
namespace K02
open G Q1
theorem textwritten_ok (d : Nat) (r : List Nat) (s : G.ST) (hl : r.length ≤ 1000) : callD pk.pg (d + 1) 8 [.str (34 :: r)] s = .ok (.str (34 :: (esc r ++ [34]))) s := by
  rw [call_eq (df := ⟨1, 3, b_text_written⟩) rfl rfl]
  have hI : evI pk.pg (callD pk.pg d) (.itr (.sl (.var 0) (.itr (.k (.int 1))) .no)) [some (.str (34 :: r)), some (.str []), none] s = .ok (.row (r.map fun c => .str [c])) s := by
    have := suf1 (34 :: r) s (by simp [bnd, G.ret, rd, opt, eS, seqI, seqL, biop, bInt, bLen, bList, bAbs, binop, big, asg, fits, line, bIsi, isTy, bTuple]; omega)
    simp [bnd, G.ret, rd, opt, eS, seqI, seqL, biop, bInt, bLen, bList, bAbs, binop, big, asg, fits, line, bIsi, isTy, bTuple, this, srcOf]
  obtain ⟨env', s2, ef, ⟨x2, hs, he⟩⟩ := for_inv (t := .v 2) (b := (.seq (.asg (.v 1) (.bin .add (.var 1) (.ife (.cmp .isin (.var 2) (.k (.str [34, 92]))) (.bin .add (.k (.str [92])) (.var 2)) (.var 2)))) .nil)) hI
    (fun j env s' => ∃ x2, s' = s ∧ env = [some (.str (34 :: r)), some (.str (esc (r.take j))), x2]) ⟨none, rfl, by simp [bnd, G.ret, rd, opt, eS, seqI, seqL, biop, bInt, bLen, bList, bAbs, binop, big, asg, fits, line, bIsi, isTy, bTuple, esc]⟩
    (fun j x env s' hj ⟨x2, hs, he⟩ => by
      subst hs; subst he
      rw [List.getElem?_map, Option.map_eq_some_iff] at hj
      obtain ⟨c, hc, rfl⟩ := hj
      have htk : r.take (j + 1) = r.take j ++ [c] := by rw [List.take_succ, hc]; rfl
      have h1 := esc_len (r.take j)
      have h2 : (r.take j).length ≤ 1000 := by rw [List.length_take]; omega
      have l1 : (esc (r.take j)).length + 1 ≤ 16777216 := by omega
      have l2 : (esc (r.take j)).length + 2 ≤ 16777216 := by omega
      refine ⟨_, [some (.str (34 :: r)), some (.str (esc (r.take (j + 1)))), some (.str [c])], s', by simp [bnd, G.ret, rd, opt, eS, seqI, seqL, biop, bInt, bLen, bList, bAbs, binop, big, asg, fits, line, bIsi, isTy, bTuple]; rfl, ?_, some (.str [c]), rfl, rfl⟩
      rw [htk, esc_app]
      by_cases q : c ∈ [34, 92]
      · have e : esc [c] = [92, c] := by simp only [esc, if_pos q]; rfl
        rw [e]
        simp [bnd, G.ret, rd, opt, eS, seqI, seqL, biop, bInt, bLen, bList, bAbs, binop, big, asg, fits, line, bIsi, isTy, bTuple, cmp_in1, q, l2]
      · have e : esc [c] = [c] := by simp only [esc, if_neg q]; rfl
        rw [e]
        simp [bnd, G.ret, rd, opt, eS, seqI, seqL, biop, bInt, bLen, bList, bAbs, binop, big, asg, fits, line, bIsi, isTy, bTuple, cmp_in1, q, l1])
  subst hs; subst he
  rw [List.length_map, List.take_length] at ef
  have h1 := esc_len r
  have l3 : 1 + (esc r).length ≤ 16777216 := by omega
  have l4 : (esc r).length + 1 + 1 ≤ 16777216 := by omega
  simp only [b_text_written]
  simp [bnd, G.ret, rd, opt, eS, seqI, seqL, biop, bInt, bLen, bList, bAbs, binop, big, asg, fits, line, bIsi, isTy, bTuple, ef, l3, l4]
theorem in_strs (t : List Nat) (L : List (List Nat)) (s : G.ST) : cmpop .isin (.str t) (.tup (L.map .str)) s = some (decide (t ∈ L)) := by
  have e1 : memOk (.str t) (L.map .str) = true := by
    unfold memOk
    rw [List.all_eq_true]
    intro y hy
    obtain ⟨l, _, rfl⟩ := List.mem_map.mp hy
    rfl
  have e2 : ((L.map W.str).any fun y => weq y (.str t)) = decide (t ∈ L) := by
    induction L with
    | nil => rfl
    | cons a L ih =>
      have e1' : memOk (.str t) (L.map .str) = true := by
        unfold memOk at e1 ⊢
        simp only [List.map_cons, List.all_cons, Bool.and_eq_true] at e1
        exact e1.2
      rw [List.map_cons, List.any_cons, ih e1']
      have : weq (.str a) (.str t) = decide (t = a) := by
        simp only [weq]
        by_cases h : a = t
        · subst h; simp [bnd, G.ret, rd, opt, eS, seqI, seqL, biop, bInt, bLen, bList, bAbs, binop, big, asg, fits, line, bIsi, isTy, bTuple]
        · have : ¬ t = a := fun q => h q.symm
          simp [bnd, G.ret, rd, opt, eS, seqI, seqL, biop, bInt, bLen, bList, bAbs, binop, big, asg, fits, line, bIsi, isTy, bTuple, h, this]
      rw [this]
      by_cases h : t = a <;> simp [bnd, G.ret, rd, opt, eS, seqI, seqL, biop, bInt, bLen, bList, bAbs, binop, big, asg, fits, line, bIsi, isTy, bTuple, h]
  cases t with
  | nil => simp only [cmpop, seqI, e1, e2, if_true]
  | cons a t => cases t <;> simp only [cmpop, seqI, e1, e2, if_true]
theorem in_quo {a b : W} (h : gdW a = true) (s : G.ST) : cmpop .isin a (.tup [.str quoS, .str funS]) s = some (quoOf [a, b]).isSome := by
  cases a with
  | str l =>
    have := in_strs l [quoS, funS] s
    rw [show W.tup [.str quoS, .str funS] = W.tup ([quoS, funS].map .str) from rfl, this]
    congr 1
    by_cases h1 : l = quoS
    · subst h1; rfl
    · by_cases h2 : l = funS
      · subst h2; rfl
      · simp [bnd, G.ret, rd, opt, eS, seqI, seqL, biop, bInt, bLen, bList, bAbs, binop, big, asg, fits, line, bIsi, isTy, bTuple, quoOf, h1, h2]
  | int i => rfl
  | tup xs => rfl
  | _ => cases h
theorem strsW_map (xs : List W) : strsW (xs.map fun x => .str (wr x)) = some (wrs xs) := by
  induction xs with
  | nil => rfl
  | cons x xs ih => simp [bnd, G.ret, rd, opt, eS, seqI, seqL, biop, bInt, bLen, bList, bAbs, binop, big, asg, fits, line, bIsi, isTy, bTuple, strsW, wrs, ih]
theorem heads0 (b : Bool) : (pk.pg.tabs[0]?).bind (lookP (qS b)) = some (.str (qT b)) := by cases b <;> rfl
theorem wrs_lsum : ∀ xs : List W, ((wrs xs).map (·.length)).sum = lsum (wrs xs)
  | [] => rfl
  | x :: xs => by simp only [wrs, List.map_cons, List.sum_cons, lsum, wrs_lsum xs]
theorem gd_tyI {w : W} (h : gdW w = true) : isTy w "int" = some (match w with | .int _ => true | _ => false) := by cases w <;> first | rfl | cases h
theorem item_t0 (a : W) (xs : List W) (s : G.ST) : item (.tup (a :: xs)) (.int 0) s = some a := by
  have : ixOf 0 (a :: xs).length = some 0 := by simp [bnd, G.ret, rd, opt, eS, seqI, seqL, biop, bInt, bLen, bList, bAbs, binop, big, asg, fits, line, bIsi, isTy, bTuple, ixOf]
  simp only [item, seqI, Option.bind_some, this, List.getElem?_cons_zero]
theorem item_t1 (a b : W) (xs : List W) (s : G.ST) : item (.tup (a :: b :: xs)) (.int 1) s = some b := by
  have : ixOf 1 (a :: b :: xs).length = some 1 := by
    simp only [ixOf, List.length_cons]
    rw [if_pos (by omega), if_pos (by omega)]
    rfl
  simp only [item, seqI, Option.bind_some, this, List.getElem?_cons_succ, List.getElem?_cons_zero]
theorem eq_tup0 (xs : List W) (s : G.ST) : cmpop .eq (.tup xs) (.tup []) s = some xs.isEmpty := by
  cases xs with
  | nil => rfl
  | cons x xs =>
    have e1 : eqOk 64 (.tup (x :: xs)) (.tup []) = true := by rw [eqOk]; rfl
    have e2 : weq (.tup (x :: xs)) (.tup []) = false := rfl
    simp [bnd, G.ret, rd, opt, eS, seqI, seqL, biop, bInt, bLen, bList, bAbs, binop, big, asg, fits, line, bIsi, isTy, bTuple, cmpop, wEq, deref, e1, e2]
/-- the text of a list -/
theorem tup_text {d n : Nat} {call : Nat → List W → M W} {k : Nat} {e0 : Option W} (s : G.ST) (xs : List W) (hn : szs xs ≤ 1000) (hg : gds xs = true) (ih : ∀ x ∈ xs, call k [x] s = .ok (.str (wr x)) s) :
    evE pk.pg call (.bin .add (.bin .add (.k (.str [40])) (.meth .join (.k (.str [32])) (.cons (.lc (.v 1) (.itr (.var 0)) .nil (.call k (.cons (.var 1) .nil)) [1]) .nil))) (.k (.str [41]))) [some (.tup xs), e0] s = .ok (.str (40 :: (joinS [32] (wrs xs) ++ [41]))) s := by
  have hx : xs.length ≤ 16777216 := by have := szs_len xs; omega
  have c1 : evE pk.pg call (.lc (.v 1) (.itr (.var 0)) .nil (.call k (.cons (.var 1) .nil)) [1]) [some (.tup xs), e0] s = .ok (.lst (xs.map fun x => .str (wr x))) s :=
    lc_mapL (P := pk.pg) (call := call) (env := [some (.tup xs), e0]) (s := s) (s' := s) (t := .v 1) (it := .itr (.var 0)) (e := .call k (.cons (.var 1) .nil)) (own := [1]) (l := xs) (f := id) (h := fun x => .str (wr x)) (by simp [bnd, G.ret, rd, opt, eS, seqI, seqL, biop, bInt, bLen, bList, bAbs, binop, big, asg, fits, line, bIsi, isTy, bTuple, srcOf]) (fun a b h => h)
      (fun c hc => ⟨_, rfl, by
        have := ih c hc
        simp [bnd, G.ret, rd, opt, eS, seqI, seqL, biop, bInt, bLen, bList, bAbs, binop, big, asg, fits, line, bIsi, isTy, bTuple, wipes, this]⟩) hx
  have hl : lsum (wrs xs) + 10 * xs.length ≤ 1000 * szs xs := by
    clear ih c1 hx
    induction xs with
    | nil => simp [bnd, G.ret, rd, opt, eS, seqI, seqL, biop, bInt, bLen, bList, bAbs, binop, big, asg, fits, line, bIsi, isTy, bTuple, wrs, lsum, szs]
    | cons x xs ih2 =>
      simp only [szs, gds, Bool.and_eq_true] at hn hg
      have a := wr_len _ x (Nat.le_refl _) hg.1
      have b := ih2 (by omega) hg.2
      simp only [wrs, lsum, szs, List.length_cons]
      omega
  have hj := joinS_len (wrs xs)
  rw [wrs_length] at hj
  have l1 : ((wrs xs).map (·.length)).sum + (wrs xs).length * 1 ≤ 16777216 := by rw [wrs_lsum, wrs_length]; omega
  have l2 : 1 + (joinS [32] (wrs xs)).length ≤ 16777216 := by omega
  have l3 : (joinS [32] (wrs xs)).length + 1 + 1 ≤ 16777216 := by omega
  have l4 : (List.map List.length (wrs xs)).sum + (wrs xs).length ≤ 16777216 := by
    show ((wrs xs).map (·.length)).sum + _ ≤ _
    rw [wrs_lsum, wrs_length]; omega
  simp [bnd, G.ret, rd, opt, eS, seqI, seqL, biop, bInt, bLen, bList, bAbs, binop, big, asg, fits, line, bIsi, isTy, bTuple, c1, Me.isL, meS, meJoin, strsW_map, l4, l2, l3]
theorem written_ok (d : Nat) (s : G.ST) : ∀ (n : Nat) (w : W), dpW w ≤ n → gdW w = true → szW w ≤ 1000 → callD pk.pg (d + n + 1) 9 [w] s = .ok (.str (wr w)) s
  | 0, w, h, _, _ => by have := dpW_pos w; omega
  | n + 1, w, h, hw, hs => by
    have ih := written_ok d s n
    rw [show d + (n + 1) + 1 = (d + n + 1) + 1 from rfl, call_eq (df := ⟨1, 2, b_written⟩) rfl rfl]
    cases w with
    | int i =>
      have : (decide (-1000000000000 ≤ i) && decide (i ≤ 1000000000000)) = true := hw
      simp only [Bool.and_eq_true, decide_eq_true_eq] at this
      have hb : -18446744073709551616 < i ∧ i < 18446744073709551616 := by omega
      simp [bnd, G.ret, rd, opt, eS, seqI, seqL, biop, bInt, bLen, bList, bAbs, binop, big, asg, fits, line, bIsi, isTy, bTuple, b_written, bStr, hb, wr]
    | str l =>
      have hw' : (wordB l || textB l) = true := hw
      cases l with
      | nil => exact absurd hw' (by decide)
      | cons c r =>
        have hlen : r.length + 1 ≤ 16777216 := by
          rcases Bool.or_eq_true_iff.mp hw' with h | h
          · simp only [wordB, Bool.and_eq_true, decide_eq_true_eq, List.length_cons] at h
            omega
          · obtain ⟨r', e, hr, _⟩ := textB_of h
            cases e
            omega
        have hi := item0 c r s hlen
        by_cases hc : c = 34
        · subst hc
          have hr : r.length ≤ 1000 := by
            rcases Bool.or_eq_true_iff.mp hw' with h | h
            · have := word_at h
              simp only [wordB, Bool.and_eq_true] at h
              exact ((isA_op h.1).2.2 rfl).elim
            · obtain ⟨r', e, hr, _⟩ := textB_of h
              cases e
              omega
          have ht := textwritten_ok (d + n) r s hr
          simp [bnd, G.ret, rd, opt, eS, seqI, seqL, biop, bInt, bLen, bList, bAbs, binop, big, asg, fits, line, bIsi, isTy, bTuple, b_written, hi, eq_str, ht, wr, atS]
        · have e : atS (c :: r) = c :: r := by simp [bnd, G.ret, rd, opt, eS, seqI, seqL, biop, bInt, bLen, bList, bAbs, binop, big, asg, fits, line, bIsi, isTy, bTuple, atS, hc]
          have hc' : ([c] == [34]) = false := by simpa [bnd, G.ret, rd, opt, eS, seqI, seqL, biop, bInt, bLen, bList, bAbs, binop, big, asg, fits, line, bIsi, isTy, bTuple] using hc
          simp [bnd, G.ret, rd, opt, eS, seqI, seqL, biop, bInt, bLen, bList, bAbs, binop, big, asg, fits, line, bIsi, isTy, bTuple, b_written, hi, eq_str, hc', wr, e]
    | tup xs =>
      simp only [dpW, szW, gdW] at h hw hs
      have ihx : ∀ x ∈ xs, callD pk.pg (d + n + 1) 9 [x] s = .ok (.str (wr x)) s := fun x hx =>
        ih x (by have := dps_mem hx; omega) (gds_mem hw x hx) (by have := szs_mem hx; omega)
      have ht := tup_text (d := d) (n := n) (call := callD pk.pg (d + n + 1)) (k := 9) (e0 := none) s xs (by omega) hw ihx
      cases q : quoOf xs with
      | some b =>
        obtain ⟨x, rfl⟩ := quoOf_some q
        have hq := in_quo (a := .str (qS b)) (b := x) (gds_mem hw _ List.mem_cons_self) s
        rw [q] at hq
        have hx := ihx x (by simp [bnd, G.ret, rd, opt, eS, seqI, seqL, biop, bInt, bLen, bList, bAbs, binop, big, asg, fits, line, bIsi, isTy, bTuple])
        have hh := heads0 b
        have e : wr (.tup [.str (qS b), x]) = qT b ++ wr x := by simp [bnd, G.ret, rd, opt, eS, seqI, seqL, biop, bInt, bLen, bList, bAbs, binop, big, asg, fits, line, bIsi, isTy, bTuple, wr, q, wrs]
        have hl := wr_len _ x (Nat.le_refl _) (gds_mem hw x (by simp [bnd, G.ret, rd, opt, eS, seqI, seqL, biop, bInt, bLen, bList, bAbs, binop, big, asg, fits, line, bIsi, isTy, bTuple]))
        have hsx : szW x ≤ 1000 := by have := szs_mem (x := x) (xs := [.str (qS b), x]) (by simp [bnd, G.ret, rd, opt, eS, seqI, seqL, biop, bInt, bLen, bList, bAbs, binop, big, asg, fits, line, bIsi, isTy, bTuple]); omega
        have hb : (qT b).length + (wr x).length ≤ 16777216 := by
          have : (qT b).length ≤ 2 := by cases b <;> decide
          omega
        obtain ⟨ps, hp, hlk⟩ : ∃ ps, pk.pg.tabs[0]? = some ps ∧ lookP (qS b) ps = some (.str (qT b)) := ⟨_, rfl, by cases b <;> rfl⟩
        have he0 : cmpop .eq (.tup [.str (qS b), x]) (.tup []) s = some false := eq_tup0 _ s
        have hlen2 : cmpop .eq (.int 2) (.int 2) s = some true := rfl
        rw [e]
        simp only [b_written]
        have hq' : cmpop .isin (.str (qS b)) (.tup [.str [113, 117, 111, 116, 101], .str [102, 117, 110, 99, 116, 105, 111, 110]]) s = some true := hq
        simp [bnd, G.ret, rd, opt, eS, seqI, seqL, biop, bInt, bLen, bList, bAbs, binop, big, asg, fits, line, bIsi, isTy, bTuple, he0, hq', item_t0, item_t1, hx, hp, hlk, hb, eq_int, hlen2]
      | none =>
        cases xs with
        | nil =>
          have he0 : cmpop .eq (.tup []) (.tup []) s = some true := eq_tup0 _ s
          have e : wr (.tup []) = nil3 := by simp [bnd, G.ret, rd, opt, eS, seqI, seqL, biop, bInt, bLen, bList, bAbs, binop, big, asg, fits, line, bIsi, isTy, bTuple, wr, quoOf]
          simp only [b_written]
          simp [bnd, G.ret, rd, opt, eS, seqI, seqL, biop, bInt, bLen, bList, bAbs, binop, big, asg, fits, line, bIsi, isTy, bTuple, he0, e, nil3]
        | cons a xs =>
          have he0 : cmpop .eq (.tup (a :: xs)) (.tup []) s = some false := eq_tup0 _ s
          have e : wr (.tup (a :: xs)) = 40 :: (joinS [32] (wrs (a :: xs)) ++ [41]) := by simp [bnd, G.ret, rd, opt, eS, seqI, seqL, biop, bInt, bLen, bList, bAbs, binop, big, asg, fits, line, bIsi, isTy, bTuple, wr, q]
          rw [e]
          simp only [b_written]
          have hcond : evE pk.pg (callD pk.pg (d + n + 1)) (.and (.cmp .eq (.bi .len (.cons (.var 0) .nil)) (.k (.int 2))) (.cmp .isin (.ix (.var 0) (.k (.int 0))) (.tup (.cons (.k (.str [113, 117, 111, 116, 101])) (.cons (.k (.str [102, 117, 110, 99, 116, 105, 111, 110])) .nil))))) [some (.tup (a :: xs)), none] s = .ok (.bl false) s := by
            by_cases h2 : xs.length = 1
            · obtain ⟨b, rfl⟩ : ∃ b, xs = [b] := List.length_eq_one_iff.mp h2
              have hq := in_quo (a := a) (b := b) (gds_mem hw _ List.mem_cons_self) s
              rw [q] at hq
              have hsoft := soft_gd (gds_mem hw a List.mem_cons_self)
              have hq' : cmpop .isin a (.tup [.str [113, 117, 111, 116, 101], .str [102, 117, 110, 99, 116, 105, 111, 110]]) s = some false := hq
              simp [bnd, G.ret, rd, opt, eS, seqI, seqL, biop, bInt, bLen, bList, bAbs, binop, big, asg, fits, line, bIsi, isTy, bTuple, item_t0, hsoft, eq_int, hq']
            · have : ((xs.length + 1 : Int) == 2) = false := by
                simp only [beq_eq_false_iff_ne, ne_eq]; omega
              simp [bnd, G.ret, rd, opt, eS, seqI, seqL, biop, bInt, bLen, bList, bAbs, binop, big, asg, fits, line, bIsi, isTy, bTuple, eq_int, this]
          simp [bnd, G.ret, rd, opt, eS, seqI, seqL, biop, bInt, bLen, bList, bAbs, binop, big, asg, fits, line, bIsi, isTy, bTuple, he0, hcond, ht, -xE_and]
    | _ => cases hw
end K02

set_option Elab.async false
set_option linter.all false
set_option maxRecDepth 100000
set_option maxHeartbeats 4000000
namespace K02
open G Q1
theorem gate_ok {P : Pg} (d : Nat) (s : G.ST) : callD P (d + 2) P.defs.length [] s = .ok .non s := by
  have h1 : P.defs[P.defs.length]? = none := List.getElem?_eq_none (Nat.le_refl _)
  rw [callD]
  simp only [h1, if_true]
theorem raise_ok {P : Pg} {d c : Nat} {e : E} {env : Env} {w : W} {s s' : G.ST} (h : evE P (callD P (d + 2)) e env s = .ok w s') : evS P (callD P (d + 2)) (.raiseF c e) env s = .exc c [w] env s' := by
  rw [evS]
  simp only [eS, G.bnd, gate_ok, h]
/-! a text at a place -/
theorem at_item {T r : List Nat} {c i : Nat} {s : G.ST} (h : T.drop i = c :: r) (hl : T.length ≤ 16777216) : item (.str T) (.int (i : Nat)) s = some (.str [c]) := by
  have h1 : T[i]? = some c := by
    have := List.getElem?_drop (xs := T) (i := i) (j := 0)
    rw [h] at this
    simpa [bnd, G.ret, rd, opt, eS, seqI, seqL, biop, bInt, bLen, bList, bAbs, binop, big, asg, fits, line, bIsi, isTy, bTuple] using this.symm
  have h2 := (List.getElem?_eq_some_iff.mp h1).1
  have h3 : ixOf (i : Int) T.length = some i := by
    unfold ixOf
    rw [if_pos (by omega), if_pos (by omega)]
    rfl
  simp only [item, line, hl, if_true, h3, Option.bind_some, h1, Option.map_some]
theorem drop_lt {T r : List Nat} {c i : Nat} (h : T.drop i = c :: r) : i < T.length ∧ r = T.drop (i + 1) ∧ r.length + i + 1 = T.length := by
  have h1 : i < T.length := by
    apply Classical.byContradiction
    intro q
    rw [List.drop_eq_nil_of_le (by omega)] at h
    cases h
  have h2 : r = T.drop (i + 1) := by
    have := congrArg (List.drop 1) h
    rw [List.drop_drop] at this
    simpa [bnd, G.ret, rd, opt, eS, seqI, seqL, biop, bInt, bLen, bList, bAbs, binop, big, asg, fits, line, bIsi, isTy, bTuple] using this.symm
  refine ⟨h1, h2, ?_⟩
  have := congrArg List.length h
  rw [List.length_drop, List.length_cons] at this
  omega
theorem drop_nil {T : List Nat} {i : Nat} (h : T.drop i = []) : T.length ≤ i := by
  have := congrArg List.length h
  rw [List.length_drop] at this
  simp only [List.length_nil] at this
  omega
theorem at_slice {T : List Nat} {i k : Nat} {s : G.ST} (h : i ≤ T.length) (hl : T.length ≤ 16777216) : slice (.str T) (some (i : Nat)) (some (((i + k : Nat)) : Int)) s = some (.str ((T.drop i).take k)) := by
  have e1 : cutIx T.length 0 (some (i : Nat)) = i := by
    unfold cutIx
    dsimp only
    rw [if_neg (by omega)]
    omega
  have e2 : cutIx T.length T.length (some (((i + k : Nat)) : Int)) = min (i + k) T.length := by
    unfold cutIx
    dsimp only
    rw [if_neg (by omega)]
    omega
  have e3 : (T.drop i).take (min (i + k) T.length - i) = (T.drop i).take k := by
    by_cases q : i + k ≤ T.length
    · congr 1; omega
    · rw [List.take_of_length_le (by rw [List.length_drop]; omega), List.take_of_length_le (by rw [List.length_drop]; omega)]
  simp only [slice, line, hl, if_true, cut, e1, e2, e3]
abbrev eT (T : List Nat) (i e : Nat) : Env := [some (.str T), some (.int (i : Nat)), some (.int (e : Nat))]
theorem eot_loop (d : Nat) (T : List Nat) (i : Nat) (s : G.ST) (hl : T.length ≤ 900000) : ∀ (f e : Nat), T.length < f + e → ∃ e' : Nat,
    whileS (fun env => evE pk.pg (callD pk.pg d) (.and (.cmp .lt (.var 2) (.bi .len (.cons (.var 0) .nil))) (.cmp .ne (.ix (.var 0) (.var 2)) (.k (.str [34])))) env) (fun env s => evS pk.pg (callD pk.pg d) (.seq (.asg (.v 2) (.bin .add (.var 2) (.ife (.cmp .eq (.ix (.var 0) (.var 2)) (.k (.str [92]))) (.k (.int 2)) (.k (.int 1))))) .nil) env s) (f + 1) (eT T i e) s = .ok .nx (eT T i e') s ∧
      (match qE false (T.drop e) with | some n => e' + 1 = e + n ∧ e' < T.length | none => T.length ≤ e')
  | f, e, hf => by
    cases hd : T.drop e with
    | nil =>
      have hge := drop_nil hd
      refine ⟨e, ?_, by simpa [bnd, G.ret, rd, opt, eS, seqI, seqL, biop, bInt, bLen, bList, bAbs, binop, big, asg, fits, line, bIsi, isTy, bTuple, qE] using hge⟩
      have hc : ¬ (e : Int) < T.length := by omega
      have hl2 : T.length ≤ 16777216 := by omega
      simp [bnd, G.ret, rd, opt, eS, seqI, seqL, biop, bInt, bLen, bList, bAbs, binop, big, asg, fits, line, bIsi, isTy, bTuple, whileS, lt_int, hc, hl2]
    | cons c r =>
      obtain ⟨h1, h2, h3⟩ := drop_lt hd
      have hl2 : T.length ≤ 16777216 := by omega
      have hi := at_item (s := s) hd hl2
      have hc : (e : Int) < T.length := by omega
      by_cases q : c = 34
      · subst q
        refine ⟨e, ?_, by simp [bnd, G.ret, rd, opt, eS, seqI, seqL, biop, bInt, bLen, bList, bAbs, binop, big, asg, fits, line, bIsi, isTy, bTuple, qE, h1]⟩
        simp [bnd, G.ret, rd, opt, eS, seqI, seqL, biop, bInt, bLen, bList, bAbs, binop, big, asg, fits, line, bIsi, isTy, bTuple, whileS, lt_int, hc, hl2, hi, ne_str]
      · have q' : ([c] == [34]) = false := by simpa [bnd, G.ret, rd, opt, eS, seqI, seqL, biop, bInt, bLen, bList, bAbs, binop, big, asg, fits, line, bIsi, isTy, bTuple] using q
        cases f with
        | zero => omega
        | succ f =>
          have hcond : evE pk.pg (callD pk.pg d) (.and (.cmp .lt (.var 2) (.bi .len (.cons (.var 0) .nil))) (.cmp .ne (.ix (.var 0) (.var 2)) (.k (.str [34])))) (eT T i e) s = .ok (.bl true) s := by simp [bnd, G.ret, rd, opt, eS, seqI, seqL, biop, bInt, bLen, bList, bAbs, binop, big, asg, fits, line, bIsi, isTy, bTuple, lt_int, hc, hl2, hi, ne_str, q']
          by_cases q2 : c = 92
          · subst q2
            have hbody : evS pk.pg (callD pk.pg d) (.seq (.asg (.v 2) (.bin .add (.var 2) (.ife (.cmp .eq (.ix (.var 0) (.var 2)) (.k (.str [92]))) (.k (.int 2)) (.k (.int 1))))) .nil) (eT T i e) s = .ok .nx (eT T i (e + 2)) s := by simp [bnd, G.ret, rd, opt, eS, seqI, seqL, biop, bInt, bLen, bList, bAbs, binop, big, asg, fits, line, bIsi, isTy, bTuple, hi, eq_str]
            obtain ⟨e', w1, w2⟩ := eot_loop d T i s hl f (e + 2) (by omega)
            refine ⟨e', ?_, ?_⟩
            · rw [whileS]
              simp only [eS, hcond, hbody]
              exact w1
            · cases r with
              | nil =>
                have : T.drop (e + 2) = [] := List.drop_eq_nil_of_le (by simp [bnd, G.ret, rd, opt, eS, seqI, seqL, biop, bInt, bLen, bList, bAbs, binop, big, asg, fits, line, bIsi, isTy, bTuple] at h3; omega)
                rw [this] at w2
                simpa [bnd, G.ret, rd, opt, eS, seqI, seqL, biop, bInt, bLen, bList, bAbs, binop, big, asg, fits, line, bIsi, isTy, bTuple, qE] using w2
              | cons x r' =>
                have hr : T.drop (e + 2) = r' := by
                  have := (drop_lt (T := T) (i := e + 1) (c := x) (r := r') (by rw [← h2])).2.1
                  rw [this]
                rw [hr] at w2
                cases hq : qE false r' with
                | none => rw [hq] at w2; simpa [bnd, G.ret, rd, opt, eS, seqI, seqL, biop, bInt, bLen, bList, bAbs, binop, big, asg, fits, line, bIsi, isTy, bTuple, qE, hq] using w2
                | some n =>
                  rw [hq] at w2
                  have w2 : e' + 1 = e + 2 + n ∧ e' < T.length := w2
                  have : qE false (92 :: x :: r') = some (n + 1 + 1) := by simp [bnd, G.ret, rd, opt, eS, seqI, seqL, biop, bInt, bLen, bList, bAbs, binop, big, asg, fits, line, bIsi, isTy, bTuple, qE, hq]
                  rw [this]
                  show e' + 1 = e + (n + 1 + 1) ∧ e' < T.length
                  omega
          · have q2' : ([c] == [92]) = false := by simpa [bnd, G.ret, rd, opt, eS, seqI, seqL, biop, bInt, bLen, bList, bAbs, binop, big, asg, fits, line, bIsi, isTy, bTuple] using q2
            have q3 : (c == 92) = false := by simpa [bnd, G.ret, rd, opt, eS, seqI, seqL, biop, bInt, bLen, bList, bAbs, binop, big, asg, fits, line, bIsi, isTy, bTuple] using q2
            have hbody : evS pk.pg (callD pk.pg d) (.seq (.asg (.v 2) (.bin .add (.var 2) (.ife (.cmp .eq (.ix (.var 0) (.var 2)) (.k (.str [92]))) (.k (.int 2)) (.k (.int 1))))) .nil) (eT T i e) s = .ok .nx (eT T i (e + 1)) s := by simp [bnd, G.ret, rd, opt, eS, seqI, seqL, biop, bInt, bLen, bList, bAbs, binop, big, asg, fits, line, bIsi, isTy, bTuple, hi, eq_str, q2']
            obtain ⟨e', w1, w2⟩ := eot_loop d T i s hl f (e + 1) (by omega)
            refine ⟨e', ?_, ?_⟩
            · rw [whileS]
              simp only [eS, hcond, hbody]
              exact w1
            · rw [← h2] at w2
              cases hq : qE false r with
              | none => rw [hq] at w2; simpa [bnd, G.ret, rd, opt, eS, seqI, seqL, biop, bInt, bLen, bList, bAbs, binop, big, asg, fits, line, bIsi, isTy, bTuple, qE, hq, q, q3] using w2
              | some n =>
                rw [hq] at w2
                have w2 : e' + 1 = e + 1 + n ∧ e' < T.length := w2
                have : qE false (c :: r) = some (n + 1) := by simp [bnd, G.ret, rd, opt, eS, seqI, seqL, biop, bInt, bLen, bList, bAbs, binop, big, asg, fits, line, bIsi, isTy, bTuple, qE, hq, q, q3]
                rw [this]
                show e' + 1 = e + (n + 1) ∧ e' < T.length
                omega
theorem eot_ok (d : Nat) (T : List Nat) (i : Nat) (s : G.ST) (hl : T.length ≤ 900000) : callD pk.pg (d + 3) 10 [.str T, .int (i : Nat)] s = match qE false (T.drop (i + 1)) with
    | some n => .ok (.int ((i + 1 + n : Nat))) s
    | none => .exc 1 [.int T.length] s := by
  obtain ⟨e', w1, w2⟩ := eot_loop (d + 2) T i s hl 999999 (i + 1) (by omega)
  have w1' : evS pk.pg (callD pk.pg (d + 2)) (.whl (.and (.cmp .lt (.var 2) (.bi .len (.cons (.var 0) .nil))) (.cmp .ne (.ix (.var 0) (.var 2)) (.k (.str [34])))) (.seq (.asg (.v 2) (.bin .add (.var 2) (.ife (.cmp .eq (.ix (.var 0) (.var 2)) (.k (.str [92]))) (.k (.int 2)) (.k (.int 1))))) .nil)) (eT T i (i + 1)) s = .ok .nx (eT T i e') s := by rw [evS_whl]; exact w1
  rw [call_eq (df := ⟨2, 3, b_end_of_text⟩) rfl rfl]
  have hl2 : T.length ≤ 16777216 := by omega
  have e0 : ((i : Int) + 1) = ((i + 1 : Nat) : Int) := by omega
  have w1'' : evS pk.pg (callD pk.pg (d + 2)) (.whl (.and (.cmp .lt (.var 2) (.bi .len (.cons (.var 0) .nil))) (.cmp .ne (.ix (.var 0) (.var 2)) (.k (.str [34])))) (.seq (.asg (.v 2) (.bin .add (.var 2) (.ife (.cmp .eq (.ix (.var 0) (.var 2)) (.k (.str [92]))) (.k (.int 2)) (.k (.int 1))))) .nil)) [some (.str T), some (.int (i : Nat)), some (.int ((i : Int) + 1))] s = .ok .nx [some (.str T), some (.int (i : Nat)), some (.int (e' : Nat))] s := by rw [e0]; exact w1'
  cases hq : qE false (T.drop (i + 1)) with
  | some n =>
    rw [hq] at w2
    have w2 : e' + 1 = i + 1 + n ∧ e' < T.length := w2
    have h1 : ¬ (T.length : Int) ≤ e' := by omega
    have h2 : (e' : Int) + 1 = (i : Int) + 1 + (n : Int) := by omega
    have hge : cmpop .ge (.int (e' : Nat)) (.int (T.length : Nat)) s = some false := by simp [bnd, G.ret, rd, opt, eS, seqI, seqL, biop, bInt, bLen, bList, bAbs, binop, big, asg, fits, line, bIsi, isTy, bTuple, cmpop, h1]
    simp only [b_end_of_text]
    simp [bnd, G.ret, rd, opt, eS, seqI, seqL, biop, bInt, bLen, bList, bAbs, binop, big, asg, fits, line, bIsi, isTy, bTuple, w1'', hge, hl2, h2]
  | none =>
    rw [hq] at w2
    have w2 : T.length ≤ e' := w2
    have h1 : (T.length : Int) ≤ e' := by omega
    have hge : cmpop .ge (.int (e' : Nat)) (.int (T.length : Nat)) s = some true := by simp [bnd, G.ret, rd, opt, eS, seqI, seqL, biop, bInt, bLen, bList, bAbs, binop, big, asg, fits, line, bIsi, isTy, bTuple, cmpop, h1]
    simp only [b_end_of_text]
    have hr : evS pk.pg (callD pk.pg (d + 2)) (.raiseF 1 (.bi .len (.cons (.var 0) .nil))) (eT T i e') s = .exc 1 [.int T.length] (eT T i e') s := raise_ok (by simp [bnd, G.ret, rd, opt, eS, seqI, seqL, biop, bInt, bLen, bList, bAbs, binop, big, asg, fits, line, bIsi, isTy, bTuple, hl2])
    simp [bnd, G.ret, rd, opt, eS, seqI, seqL, biop, bInt, bLen, bList, bAbs, binop, big, asg, fits, line, bIsi, isTy, bTuple, w1'', hge, hl2, hr]
theorem two_eq (c : Nat) (r : List Nat) : (((c :: r).take 2 == [35, 39]) : Bool) = decide (c = 35 ∧ r.head? = some 39) := by
  cases r with
  | nil => simp [bnd, G.ret, rd, opt, eS, seqI, seqL, biop, bInt, bLen, bList, bAbs, binop, big, asg, fits, line, bIsi, isTy, bTuple]
  | cons x r => by_cases h1 : c = 35 <;> by_cases h2 : x = 39 <;> simp [bnd, G.ret, rd, opt, eS, seqI, seqL, biop, bInt, bLen, bList, bAbs, binop, big, asg, fits, line, bIsi, isTy, bTuple, h1, h2]
theorem sym_loop (d : Nat) (T : List Nat) (i : Nat) (s : G.ST) (hl : T.length ≤ 900000) : ∀ (f e : Nat), T.length < f + e →
    whileS (fun env => evE pk.pg (callD pk.pg d) (.and (.cmp .lt (.var 2) (.bi .len (.cons (.var 0) .nil))) (.cmp .notin (.ix (.var 0) (.var 2)) (.k (.str [40, 41, 39, 34, 32, 10])))) env) (fun env s => evS pk.pg (callD pk.pg d) (.seq (.asg (.v 2) (.bin .add (.var 2) (.k (.int 1)))) .nil) env s) (f + 1) (eT T i e) s = .ok .nx (eT T i (e + ((T.drop e).takeWhile fun c => !isStop c).length)) s
  | f, e, hf => by
    cases hd : T.drop e with
    | nil =>
      have hge := drop_nil hd
      have hc : ¬ (e : Int) < T.length := by omega
      have hl2 : T.length ≤ 16777216 := by omega
      simp [bnd, G.ret, rd, opt, eS, seqI, seqL, biop, bInt, bLen, bList, bAbs, binop, big, asg, fits, line, bIsi, isTy, bTuple, whileS, lt_int, hc, hl2]
    | cons c r =>
      obtain ⟨h1, h2, h3⟩ := drop_lt hd
      have hl2 : T.length ≤ 16777216 := by omega
      have hi := at_item (s := s) hd hl2
      have hc : (e : Int) < T.length := by omega
      have hn := notin1 c [40, 41, 39, 34, 32, 10] s
      by_cases q : isStop c = true
      · have hn : cmpop .notin (.str [c]) (.str [40, 41, 39, 34, 32, 10]) s = some false := by
          rw [hn]; unfold isStop at q; rw [q]; rfl
        simp [bnd, G.ret, rd, opt, eS, seqI, seqL, biop, bInt, bLen, bList, bAbs, binop, big, asg, fits, line, bIsi, isTy, bTuple, whileS, lt_int, hc, hl2, hi, hn, q]
      · have q' : isStop c = false := by simpa [bnd, G.ret, rd, opt, eS, seqI, seqL, biop, bInt, bLen, bList, bAbs, binop, big, asg, fits, line, bIsi, isTy, bTuple] using q
        have hn : cmpop .notin (.str [c]) (.str [40, 41, 39, 34, 32, 10]) s = some true := by
          rw [hn]; unfold isStop at q'; rw [q']; rfl
        cases f with
        | zero => omega
        | succ f =>
          have hcond : evE pk.pg (callD pk.pg d) (.and (.cmp .lt (.var 2) (.bi .len (.cons (.var 0) .nil))) (.cmp .notin (.ix (.var 0) (.var 2)) (.k (.str [40, 41, 39, 34, 32, 10])))) (eT T i e) s = .ok (.bl true) s := by simp [bnd, G.ret, rd, opt, eS, seqI, seqL, biop, bInt, bLen, bList, bAbs, binop, big, asg, fits, line, bIsi, isTy, bTuple, lt_int, hc, hl2, hi, hn]
          have hbody : evS pk.pg (callD pk.pg d) (.seq (.asg (.v 2) (.bin .add (.var 2) (.k (.int 1)))) .nil) (eT T i e) s = .ok .nx (eT T i (e + 1)) s := by simp [bnd, G.ret, rd, opt, eS, seqI, seqL, biop, bInt, bLen, bList, bAbs, binop, big, asg, fits, line, bIsi, isTy, bTuple]
          have ih := sym_loop d T i s hl f (e + 1) (by omega)
          rw [← h2] at ih
          rw [whileS]
          simp only [eS, hcond, hbody]
          rw [ih, List.takeWhile_cons_of_pos (by simp [bnd, G.ret, rd, opt, eS, seqI, seqL, biop, bInt, bLen, bList, bAbs, binop, big, asg, fits, line, bIsi, isTy, bTuple, q']), List.length_cons]
          congr 2
          rw [show e + 1 + (List.takeWhile (fun c => !isStop c) r).length = e + ((List.takeWhile (fun c => !isStop c) r).length + 1) from by omega]
theorem token_ok (d : Nat) (T r : List Nat) (c i : Nat) (s : G.ST) (hd : T.drop i = c :: r) (hl : T.length ≤ 900000) : callD pk.pg (d + 4) 11 [.str T, .int (i : Nat)] s = match tokLen (c :: r) with
    | some n => .ok (.int ((i + n : Nat))) s
    | none => .exc 1 [.int T.length] s := by
  obtain ⟨h1, h2, h3⟩ := drop_lt hd
  have hl2 : T.length ≤ 16777216 := by omega
  have hi := at_item (s := s) hd hl2
  rw [call_eq (df := ⟨2, 3, b_end_of_token⟩) rfl rfl]
  by_cases q : c = 34
  · subst q
    have he := eot_ok d T i s hl
    rw [← h2] at he
    cases hq : qE false r with
    | none =>
      rw [hq] at he
      have ht : tokLen (34 :: r) = none := by simp [bnd, G.ret, rd, opt, eS, seqI, seqL, biop, bInt, bLen, bList, bAbs, binop, big, asg, fits, line, bIsi, isTy, bTuple, tokLen, hq]
      rw [ht]
      simp only [b_end_of_token]
      simp [bnd, G.ret, rd, opt, eS, seqI, seqL, biop, bInt, bLen, bList, bAbs, binop, big, asg, fits, line, bIsi, isTy, bTuple, hi, eq_str, he]
    | some n =>
      rw [hq] at he
      have ht : tokLen (34 :: r) = some (n + 1) := by simp [bnd, G.ret, rd, opt, eS, seqI, seqL, biop, bInt, bLen, bList, bAbs, binop, big, asg, fits, line, bIsi, isTy, bTuple, tokLen, hq]
      have e1 : i + 1 + n = i + (n + 1) := by omega
      rw [ht]
      have he2 : callD pk.pg (d + 3) 10 [.str T, .int (i : Nat)] s = .ok (.int ((i + (n + 1) : Nat))) s := by rw [← e1]; exact he
      simp only [b_end_of_token]
      simp [bnd, G.ret, rd, opt, eS, seqI, seqL, biop, bInt, bLen, bList, bAbs, binop, big, asg, fits, line, bIsi, isTy, bTuple, hi, eq_str, he2]
  · have q1 : ([c] == [34]) = false := by simpa [bnd, G.ret, rd, opt, eS, seqI, seqL, biop, bInt, bLen, bList, bAbs, binop, big, asg, fits, line, bIsi, isTy, bTuple] using q
    have hs := at_slice (T := T) (i := i) (k := 2) (s := s) (by omega) hl2
    rw [hd] at hs
    have hs' : slice (.str T) (some (i : Int)) (some ((i : Int) + 2)) s = some (.str ((c :: r).take 2)) := by
      rw [← hs]; congr 2
    have h2e := two_eq c r
    by_cases q2 : c = 35 ∧ r.head? = some 39
    · rw [decide_eq_true q2] at h2e
      have ht : tokLen (c :: r) = some 2 := by simp [bnd, G.ret, rd, opt, eS, seqI, seqL, biop, bInt, bLen, bList, bAbs, binop, big, asg, fits, line, bIsi, isTy, bTuple, tokLen, q2.1, q2.2]
      rw [ht]
      simp only [b_end_of_token]
      simp [bnd, G.ret, rd, opt, eS, seqI, seqL, biop, bInt, bLen, bList, bAbs, binop, big, asg, fits, line, bIsi, isTy, bTuple, hi, eq_str, q1, hs', h2e, -List.take_succ_cons]
    · rw [decide_eq_false q2] at h2e
      by_cases q3 : isP c = true
      · have hin : cmpop .isin (.str [c]) (.str [40, 41, 39, 32, 10]) s = some true := by
          rw [cmp_in1]; unfold isP at q3; rw [q3]
        have ht : tokLen (c :: r) = some 1 := by simp [bnd, G.ret, rd, opt, eS, seqI, seqL, biop, bInt, bLen, bList, bAbs, binop, big, asg, fits, line, bIsi, isTy, bTuple, tokLen, q, q2, q3]
        rw [ht]
        simp only [b_end_of_token]
        simp [bnd, G.ret, rd, opt, eS, seqI, seqL, biop, bInt, bLen, bList, bAbs, binop, big, asg, fits, line, bIsi, isTy, bTuple, hi, eq_str, q1, hs', h2e, hin, -List.take_succ_cons]
      · have q3' : isP c = false := by simpa [bnd, G.ret, rd, opt, eS, seqI, seqL, biop, bInt, bLen, bList, bAbs, binop, big, asg, fits, line, bIsi, isTy, bTuple] using q3
        have hin : cmpop .isin (.str [c]) (.str [40, 41, 39, 32, 10]) s = some false := by
          rw [cmp_in1]; unfold isP at q3'; rw [q3']
        have ht : tokLen (c :: r) = some ((c :: r).takeWhile fun c => !isStop c).length := by simp only [tokLen, if_neg q, if_neg q2, if_neg q3]
        have hw := sym_loop (d + 3) T i s hl 999999 i (by omega)
        rw [hd] at hw
        have hw' : evS pk.pg (callD pk.pg (d + 3)) (.whl (.and (.cmp .lt (.var 2) (.bi .len (.cons (.var 0) .nil))) (.cmp .notin (.ix (.var 0) (.var 2)) (.k (.str [40, 41, 39, 34, 32, 10])))) (.seq (.asg (.v 2) (.bin .add (.var 2) (.k (.int 1)))) .nil)) [some (.str T), some (.int (i : Nat)), some (.int (i : Nat))] s = .ok .nx (eT T i (i + ((c :: r).takeWhile fun c => !isStop c).length)) s := by rw [evS_whl]; exact hw
        rw [ht]
        generalize ((c :: r).takeWhile fun c => !isStop c).length = n at *
        simp only [b_end_of_token]
        simp [bnd, G.ret, rd, opt, eS, seqI, seqL, biop, bInt, bLen, bList, bAbs, binop, big, asg, fits, line, bIsi, isTy, bTuple, hi, eq_str, q1, hs', h2e, hin, hw', -List.take_succ_cons]
theorem le1 (a b : Nat) (s : G.ST) : cmpop .le (.str [a]) (.str [b]) s = some (!decide (b < a)) := by
  show some (!slt [b] [a]) = _
  rw [slt1]
theorem or_ev {P : Pg} {call : Nat → List W → M W} {a b : E} {env : Env} {s : G.ST} {x y : Bool} (h1 : evE P call a env s = .ok (.bl x) s) (h2 : evE P call b env s = .ok (.bl y) s) : evE P call (.or a b) env s = .ok (.bl (x || y)) s := by
  rw [xE_or]
  simp only [G.bnd, h1]
  cases x with
  | true => rfl
  | false => exact h2
theorem and_ev {P : Pg} {call : Nat → List W → M W} {a b : E} {env : Env} {s : G.ST} {x y : Bool} (h1 : evE P call a env s = .ok (.bl x) s) (h2 : evE P call b env s = .ok (.bl y) s) : evE P call (.and a b) env s = .ok (.bl (x && y)) s := by
  rw [xE_and]
  simp only [G.bnd, h1]
  cases x with
  | false => rfl
  | true => exact h2
theorem not_ev {P : Pg} {call : Nat → List W → M W} {a : E} {env : Env} {s : G.ST} {x : Bool} (h1 : evE P call a env s = .ok (.bl x) s) : evE P call (.not a) env s = .ok (.bl (!x)) s := by
  rw [xE_not]
  simp only [G.bnd, h1]
  rfl
theorem letters_loop (d : Nat) (tk : List Nat) (s : G.ST) : ∀ (l fd : List Nat) (b : Bool) (x3 : Option W), fd.length + l.length ≤ 16777216 →
    match lets b l with
    | some m => ∃ b' x3', forS (stepH pk.pg (callD pk.pg d) (.v 3) (.seq (.ife (.or (.and (.var 2) (.cmp .notin (.var 3) (.k (.str [34, 92])))) (.not (.or (.cmp .eq (.var 3) (.k (.str [10]))) (.chain .le .le (.k (.str [32])) (.var 3) (.k (.str [126])))))) (.seq (.rt (.k .non)) .nil) .nil) (.seq (.ife (.and (.cmp .eq (.var 3) (.k (.str [92]))) (.not (.var 2))) (.seq (.asg (.v 2) (.k (.bl true))) .nil) (.seq (.par2 1 2 (.bin .add (.var 1) (.var 3)) (.k (.bl false))) .nil)) .nil))) (l.map fun c => .str [c]) [some (.str tk), some (.str fd), some (.bl b), x3] s = .ok .nx [some (.str tk), some (.str (fd ++ m)), some (.bl b'), x3'] s
    | none => ∃ env', forS (stepH pk.pg (callD pk.pg d) (.v 3) (.seq (.ife (.or (.and (.var 2) (.cmp .notin (.var 3) (.k (.str [34, 92])))) (.not (.or (.cmp .eq (.var 3) (.k (.str [10]))) (.chain .le .le (.k (.str [32])) (.var 3) (.k (.str [126])))))) (.seq (.rt (.k .non)) .nil) .nil) (.seq (.ife (.and (.cmp .eq (.var 3) (.k (.str [92]))) (.not (.var 2))) (.seq (.asg (.v 2) (.k (.bl true))) .nil) (.seq (.par2 1 2 (.bin .add (.var 1) (.var 3)) (.k (.bl false))) .nil)) .nil))) (l.map fun c => .str [c]) [some (.str tk), some (.str fd), some (.bl b), x3] s = .ok (.rt .non) env' s
  | [], fd, b, x3, _ => ⟨b, x3, by simp [bnd, G.ret, rd, opt, eS, seqI, seqL, biop, bInt, bLen, bList, bAbs, binop, big, asg, fits, line, bIsi, isTy, bTuple, forS]⟩
  | c :: r, fd, b, x3, hl => by
    have hsig : evE pk.pg (callD pk.pg d) (.or (.cmp .eq (.var 3) (.k (.str [10]))) (.chain .le .le (.k (.str [32])) (.var 3) (.k (.str [126])))) [some (.str tk), some (.str fd), some (.bl b), some (.str [c])] s = .ok (.bl (tsig c)) s := by
      by_cases h1 : c = 10
      · subst h1; simp [bnd, G.ret, rd, opt, eS, seqI, seqL, biop, bInt, bLen, bList, bAbs, binop, big, asg, fits, line, bIsi, isTy, bTuple, eq_str, tsig]
      · have h1' : (c == 10) = false := by simpa [bnd, G.ret, rd, opt, eS, seqI, seqL, biop, bInt, bLen, bList, bAbs, binop, big, asg, fits, line, bIsi, isTy, bTuple] using h1
        by_cases h2 : 32 ≤ c
        · have h3 : ¬ c < 32 := by omega
          by_cases h4 : c ≤ 126
          · have h5 : ¬ 126 < c := by omega
            simp [bnd, G.ret, rd, opt, eS, seqI, seqL, biop, bInt, bLen, bList, bAbs, binop, big, asg, fits, line, bIsi, isTy, bTuple, eq_str, tsig, le1, h1, h1', h2, h3, h4, h5]
          · have h5 : 126 < c := by omega
            simp [bnd, G.ret, rd, opt, eS, seqI, seqL, biop, bInt, bLen, bList, bAbs, binop, big, asg, fits, line, bIsi, isTy, bTuple, eq_str, tsig, le1, h1, h1', h2, h3, h4, h5]
        · have h3 : c < 32 := by omega
          simp [bnd, G.ret, rd, opt, eS, seqI, seqL, biop, bInt, bLen, bList, bAbs, binop, big, asg, fits, line, bIsi, isTy, bTuple, eq_str, tsig, le1, h1, h1', h2, h3]
    have hni : evE pk.pg (callD pk.pg d) (.cmp .notin (.var 3) (.k (.str [34, 92]))) [some (.str tk), some (.str fd), some (.bl b), some (.str [c])] s = .ok (.bl (!decide (c ∈ [34, 92]))) s := by
      have := notin1 c [34, 92] s
      simp [bnd, G.ret, rd, opt, eS, seqI, seqL, biop, bInt, bLen, bList, bAbs, binop, big, asg, fits, line, bIsi, isTy, bTuple, this]
    have hv : evE pk.pg (callD pk.pg d) (.var 2) [some (.str tk), some (.str fd), some (.bl b), some (.str [c])] s = .ok (.bl b) s := by simp [bnd, G.ret, rd, opt, eS, seqI, seqL, biop, bInt, bLen, bList, bAbs, binop, big, asg, fits, line, bIsi, isTy, bTuple]
    have hbad := or_ev (and_ev hv hni) (not_ev hsig)
    have hesc : evE pk.pg (callD pk.pg d) (.and (.cmp .eq (.var 3) (.k (.str [92]))) (.not (.var 2))) [some (.str tk), some (.str fd), some (.bl b), some (.str [c])] s = .ok (.bl (c == 92 && !b)) s :=
      and_ev (by simp [bnd, G.ret, rd, opt, eS, seqI, seqL, biop, bInt, bLen, bList, bAbs, binop, big, asg, fits, line, bIsi, isTy, bTuple, eq_str]) (not_ev hv)
    have hl1 : fd.length + 1 ≤ 16777216 := by simp only [List.length_cons] at hl; omega
    rw [List.map_cons]
    simp only [lets]
    cases q1 : ((b && !decide (c ∈ [34, 92])) || !tsig c) with
    | true =>
      rw [q1] at hbad
      simp only [if_true]
      refine ⟨[some (.str tk), some (.str fd), some (.bl b), some (.str [c])], ?_⟩
      simp only [forS, stepH]
      simp [bnd, G.ret, rd, opt, eS, seqI, seqL, biop, bInt, bLen, bList, bAbs, binop, big, asg, fits, line, bIsi, isTy, bTuple, hbad, -xE_or, -xE_and, -xE_not]
    | false =>
      rw [q1] at hbad
      simp only [Bool.false_eq_true, if_false]
      cases q2 : (c == 92 && !b) with
      | true =>
        rw [q2] at hesc
        have hstep : stepH pk.pg (callD pk.pg d) (.v 3) (.seq (.ife (.or (.and (.var 2) (.cmp .notin (.var 3) (.k (.str [34, 92])))) (.not (.or (.cmp .eq (.var 3) (.k (.str [10]))) (.chain .le .le (.k (.str [32])) (.var 3) (.k (.str [126])))))) (.seq (.rt (.k .non)) .nil) .nil) (.seq (.ife (.and (.cmp .eq (.var 3) (.k (.str [92]))) (.not (.var 2))) (.seq (.asg (.v 2) (.k (.bl true))) .nil) (.seq (.par2 1 2 (.bin .add (.var 1) (.var 3)) (.k (.bl false))) .nil)) .nil)) (.str [c]) [some (.str tk), some (.str fd), some (.bl b), x3] s = .ok .nx [some (.str tk), some (.str fd), some (.bl true), some (.str [c])] s := by
          simp [bnd, G.ret, rd, opt, eS, seqI, seqL, biop, bInt, bLen, bList, bAbs, binop, big, asg, fits, line, bIsi, isTy, bTuple, stepH, hbad, hesc, -xE_or, -xE_and, -xE_not]
        have ih := letters_loop d tk s r fd true (some (.str [c])) (by simp only [List.length_cons] at hl; omega)
        simp only [if_true, forS, hstep]
        exact ih
      | false =>
        rw [q2] at hesc
        have hstep : stepH pk.pg (callD pk.pg d) (.v 3) (.seq (.ife (.or (.and (.var 2) (.cmp .notin (.var 3) (.k (.str [34, 92])))) (.not (.or (.cmp .eq (.var 3) (.k (.str [10]))) (.chain .le .le (.k (.str [32])) (.var 3) (.k (.str [126])))))) (.seq (.rt (.k .non)) .nil) .nil) (.seq (.ife (.and (.cmp .eq (.var 3) (.k (.str [92]))) (.not (.var 2))) (.seq (.asg (.v 2) (.k (.bl true))) .nil) (.seq (.par2 1 2 (.bin .add (.var 1) (.var 3)) (.k (.bl false))) .nil)) .nil)) (.str [c]) [some (.str tk), some (.str fd), some (.bl b), x3] s = .ok .nx [some (.str tk), some (.str (fd ++ [c])), some (.bl false), some (.str [c])] s := by
          simp [bnd, G.ret, rd, opt, eS, seqI, seqL, biop, bInt, bLen, bList, bAbs, binop, big, asg, fits, line, bIsi, isTy, bTuple, stepH, hbad, hesc, hl1, -xE_or, -xE_and, -xE_not]
        have ih := letters_loop d tk s r (fd ++ [c]) false (some (.str [c])) (by simp only [List.length_cons, List.length_append, List.length_nil] at hl ⊢; omega)
        simp only [Bool.false_eq_true, if_false, forS, hstep]
        cases q3 : lets false r with
        | none =>
          rw [q3] at ih
          exact ih
        | some m =>
          rw [q3] at ih
          obtain ⟨b', x3', e⟩ := ih
          refine ⟨b', x3', ?_⟩
          rw [e]
          simp [bnd, G.ret, rd, opt, eS, seqI, seqL, biop, bInt, bLen, bList, bAbs, binop, big, asg, fits, line, bIsi, isTy, bTuple]
theorem mid_slice (t : List Nat) (s : G.ST) (hl : t.length ≤ 16777216) : slice (.str t) (some 1) (some (-1)) s = some (.str (mid t)) := by
  cases t with
  | nil => rfl
  | cons c r =>
    have e1 : cutIx (c :: r).length 0 (some 1) = 1 := by
      unfold cutIx
      dsimp only
      rw [if_neg (by omega)]
      simp [bnd, G.ret, rd, opt, eS, seqI, seqL, biop, bInt, bLen, bList, bAbs, binop, big, asg, fits, line, bIsi, isTy, bTuple]
    have e2 : cutIx (c :: r).length (c :: r).length (some (-1)) = r.length := by
      unfold cutIx
      dsimp only
      rw [if_pos (by omega)]
      simp only [List.length_cons]
      omega
    simp only [slice, line, hl, if_true, cut, e1, e2]
    congr 2
theorem letters_ok (d : Nat) (t : List Nat) (s : G.ST) (hl : t.length ≤ 16777216) : callD pk.pg (d + 1) 12 [.str t] s = .ok (match lets false (mid t) with | some m => .str m | none => .non) s := by
  have hs := mid_slice t s hl
  have hm : (mid t).length ≤ t.length := by
    simp only [mid, List.length_take, List.length_drop]; omega
  have hI : evI pk.pg (callD pk.pg d) (.itr (.sl (.var 0) (.itr (.k (.int 1))) (.itr (.neg (.k (.int 1)))))) [some (.str t), some (.str []), some (.bl false), none] s = .ok (.row ((mid t).map fun c => .str [c])) s := by
    simp [bnd, G.ret, rd, opt, eS, seqI, seqL, biop, bInt, bLen, bList, bAbs, binop, big, asg, fits, line, bIsi, isTy, bTuple, hs, srcOf]
  have hw := letters_loop d t s (mid t) [] false none (by simp [bnd, G.ret, rd, opt, eS, seqI, seqL, biop, bInt, bLen, bList, bAbs, binop, big, asg, fits, line, bIsi, isTy, bTuple]; omega)
  rw [call_eq (df := ⟨1, 4, b_letters_of⟩) rfl rfl]
  cases q : lets false (mid t) with
  | some m =>
    rw [q] at hw
    obtain ⟨b', x3', e⟩ := hw
    have hf : evS pk.pg (callD pk.pg d) (.forr (.v 3) (.itr (.sl (.var 0) (.itr (.k (.int 1))) (.itr (.neg (.k (.int 1)))))) (.seq (.ife (.or (.and (.var 2) (.cmp .notin (.var 3) (.k (.str [34, 92])))) (.not (.or (.cmp .eq (.var 3) (.k (.str [10]))) (.chain .le .le (.k (.str [32])) (.var 3) (.k (.str [126])))))) (.seq (.rt (.k .non)) .nil) .nil) (.seq (.ife (.and (.cmp .eq (.var 3) (.k (.str [92]))) (.not (.var 2))) (.seq (.asg (.v 2) (.k (.bl true))) .nil) (.seq (.par2 1 2 (.bin .add (.var 1) (.var 3)) (.k (.bl false))) .nil)) .nil))) [some (.str t), some (.str []), some (.bl false), none] s = .ok .nx [some (.str t), some (.str ([] ++ m)), some (.bl b'), x3'] s := by
      rw [evS_for]
      simp only [eS, hI, forA]
      exact e
    simp only [b_letters_of]
    simp [bnd, G.ret, rd, opt, eS, seqI, seqL, biop, bInt, bLen, bList, bAbs, binop, big, asg, fits, line, bIsi, isTy, bTuple, hf, asgs]
  | none =>
    rw [q] at hw
    obtain ⟨env', e⟩ := hw
    have hf : evS pk.pg (callD pk.pg d) (.forr (.v 3) (.itr (.sl (.var 0) (.itr (.k (.int 1))) (.itr (.neg (.k (.int 1)))))) (.seq (.ife (.or (.and (.var 2) (.cmp .notin (.var 3) (.k (.str [34, 92])))) (.not (.or (.cmp .eq (.var 3) (.k (.str [10]))) (.chain .le .le (.k (.str [32])) (.var 3) (.k (.str [126])))))) (.seq (.rt (.k .non)) .nil) .nil) (.seq (.ife (.and (.cmp .eq (.var 3) (.k (.str [92]))) (.not (.var 2))) (.seq (.asg (.v 2) (.k (.bl true))) .nil) (.seq (.par2 1 2 (.bin .add (.var 1) (.var 3)) (.k (.bl false))) .nil)) .nil))) [some (.str t), some (.str []), some (.bl false), none] s = .ok (.rt .non) env' s := by
      rw [evS_for]
      simp only [eS, hI, forA]
      exact e
    simp only [b_letters_of]
    simp [bnd, G.ret, rd, opt, eS, seqI, seqL, biop, bInt, bLen, bList, bAbs, binop, big, asg, fits, line, bIsi, isTy, bTuple, hf, asgs]
theorem fitstoken_ok (d : Nat) (c : Nat) (r : List Nat) (s : G.ST) (hl : r.length + 1 ≤ 16777216) : callD pk.pg (d + 2) 13 [.str (c :: r)] s = .ok (.bl (fitsT (c :: r))) s := by
  have h1 := in_strs (c :: r) pToks s
  have h1' : cmpop .isin (.str (c :: r)) (.tup [.str [40], .str [41], .str [39], .str [35, 39]]) s = some (decide (c :: r ∈ pToks)) := h1
  have hi := item0 c r s hl
  have h2 := letters_ok d (c :: r) s (by simpa [bnd, G.ret, rd, opt, eS, seqI, seqL, biop, bInt, bLen, bList, bAbs, binop, big, asg, fits, line, bIsi, isTy, bTuple] using hl)
  have h3 := made_ok d (c :: r) signs s (by simpa [bnd, G.ret, rd, opt, eS, seqI, seqL, biop, bInt, bLen, bList, bAbs, binop, big, asg, fits, line, bIsi, isTy, bTuple] using hl)
  have hc : pk.pg.consts[6]? = some (.str signs) := rfl
  rw [call_eq (df := ⟨1, 1, b_fits_token⟩) rfl rfl]
  unfold fitsT
  cases q : decide (c :: r ∈ pToks) with
  | true =>
    rw [q] at h1'
    simp only [b_fits_token]
    simp [bnd, G.ret, rd, opt, eS, seqI, seqL, biop, bInt, bLen, bList, bAbs, binop, big, asg, fits, line, bIsi, isTy, bTuple, h1']
  | false =>
    rw [q] at h1'
    by_cases q2 : c = 34
    · subst q2
      cases q3 : lets false (mid (34 :: r)) with
      | none =>
        rw [q3] at h2
        have hn : cmpop .isnot .non .non s = some false := rfl
        simp only [b_fits_token]
        simp [bnd, G.ret, rd, opt, eS, seqI, seqL, biop, bInt, bLen, bList, bAbs, binop, big, asg, fits, line, bIsi, isTy, bTuple, h1', hi, eq_str, h2, hn]
      | some m =>
        rw [q3] at h2
        have hn : cmpop .isnot (.str m) .non s = some true := rfl
        simp only [b_fits_token]
        simp [bnd, G.ret, rd, opt, eS, seqI, seqL, biop, bInt, bLen, bList, bAbs, binop, big, asg, fits, line, bIsi, isTy, bTuple, h1', hi, eq_str, h2, hn]
    · have q1 : ([c] == [34]) = false := by simpa [bnd, G.ret, rd, opt, eS, seqI, seqL, biop, bInt, bLen, bList, bAbs, binop, big, asg, fits, line, bIsi, isTy, bTuple] using q2
      simp only [b_fits_token]
      simp [bnd, G.ret, rd, opt, eS, seqI, seqL, biop, bInt, bLen, bList, bAbs, binop, big, asg, fits, line, bIsi, isTy, bTuple, h1', hi, eq_str, q1, hc, h3, q2]
end K02

set_option Elab.async false
set_option linter.all false
set_option maxRecDepth 100000
set_option maxHeartbeats 4000000
namespace K02
open G Q1
theorem qE_le : ∀ (r : List Nat) (b : Bool) (n : Nat), qE b r = some n → 1 ≤ n ∧ n ≤ r.length
  | [], b, n, h => by cases b <;> simp [bnd, G.ret, rd, opt, eS, seqI, seqL, biop, bInt, bLen, bList, bAbs, binop, big, asg, fits, line, bIsi, isTy, bTuple, qE] at h
  | c :: r, b, n, h => by
    cases b with
    | true =>
      simp only [qE, Option.map_eq_some_iff] at h
      obtain ⟨m, h, rfl⟩ := h
      have := qE_le r _ m h
      simp only [List.length_cons]; omega
    | false =>
      simp only [qE] at h
      split at h
      · cases h; simp [bnd, G.ret, rd, opt, eS, seqI, seqL, biop, bInt, bLen, bList, bAbs, binop, big, asg, fits, line, bIsi, isTy, bTuple]
      · rw [Option.map_eq_some_iff] at h
        obtain ⟨m, h, rfl⟩ := h
        have := qE_le r _ m h
        simp only [List.length_cons]; omega
theorem takeW_le {p : Nat → Bool} : ∀ r : List Nat, (r.takeWhile p).length ≤ r.length
  | [] => Nat.le_refl _
  | c :: r => by
    have := takeW_le (p := p) r
    rw [List.takeWhile_cons]
    split <;> simp [bnd, G.ret, rd, opt, eS, seqI, seqL, biop, bInt, bLen, bList, bAbs, binop, big, asg, fits, line, bIsi, isTy, bTuple] <;> omega
theorem tokLen_le {c n : Nat} {r : List Nat} (h : tokLen (c :: r) = some n) : 1 ≤ n ∧ n ≤ r.length + 1 := by
  simp only [tokLen] at h
  split at h
  · rw [Option.map_eq_some_iff] at h
    obtain ⟨m, h, rfl⟩ := h
    have := qE_le r _ m h
    omega
  · rename_i h34
    split at h
    · rename_i h2
      cases h
      cases r with
      | nil => simp [bnd, G.ret, rd, opt, eS, seqI, seqL, biop, bInt, bLen, bList, bAbs, binop, big, asg, fits, line, bIsi, isTy, bTuple] at h2
      | cons x r => simp [bnd, G.ret, rd, opt, eS, seqI, seqL, biop, bInt, bLen, bList, bAbs, binop, big, asg, fits, line, bIsi, isTy, bTuple]
    · split at h
      · cases h; omega
      · rename_i hP
        cases h
        have hs : isStop c = false := by
          unfold isStop isP at *
          simp only [List.mem_cons, List.not_mem_nil, or_false, decide_eq_true_eq, decide_eq_false_iff_not] at *
          omega
        have := takeW_le (p := fun c => !isStop c) r
        rw [List.takeWhile_cons_of_pos (by simp [bnd, G.ret, rd, opt, eS, seqI, seqL, biop, bInt, bLen, bList, bAbs, binop, big, asg, fits, line, bIsi, isTy, bTuple, hs]), List.length_cons]
        omega
def pw (p : Nat × Tok) : W := .tup [.int (p.1 : Nat), .str p.2]
abbrev eK (T : List Nat) (fd : List W) (i : Nat) (x3 : Option W) : Env := [some (.str T), some (.lst fd), some (.int (i : Nat)), x3]
section
variable (d : Nat) (T r : List Nat) (c i n : Nat) (fd : List W) (x3 : Option W) (s : G.ST)
abbrev tBody : G.RS := evS pk.pg (callD pk.pg (d + 4)) (.seq (.asg (.v 3) (.call 11 (.cons (.var 0) (.cons (.var 2) .nil)))) (.seq (.ife (.cmp .notin (.ix (.var 0) (.var 2)) (.k (.str [32, 10]))) (.seq (.ife (.not (.call 13 (.cons (.sl (.var 0) (.itr (.var 2)) (.itr (.var 3))) .nil))) (.seq (.raiseF 1 (.var 2)) .nil) .nil) (.seq (.asg (.v 1) (.bin .add (.var 1) (.lst (.cons (.tup (.cons (.var 2) (.cons (.sl (.var 0) (.itr (.var 2)) (.itr (.var 3))) .nil))) .nil)))) .nil)) .nil) (.seq (.asg (.v 2) (.var 3)) .nil))) (eK T fd i x3) s
theorem tb_none (hd : T.drop i = c :: r) (hl : T.length ≤ 900000) (ht : tokLen (c :: r) = none) : ∃ env', tBody d T i fd x3 s = .exc 1 [.int T.length] env' s := by
  have h := token_ok d T r c i s hd hl
  rw [ht] at h
  exact ⟨eK T fd i x3, by simp [bnd, G.ret, rd, opt, eS, seqI, seqL, biop, bInt, bLen, bList, bAbs, binop, big, asg, fits, line, bIsi, isTy, bTuple, tBody, h]⟩
theorem notin_blank : cmpop .notin (.str [c]) (.str [32, 10]) s = some (!blank c) := by
  rw [notin1]; rfl
theorem tb_blank (hd : T.drop i = c :: r) (hl : T.length ≤ 900000) (ht : tokLen (c :: r) = some n) (hb : blank c = true) : ∃ x3', tBody d T i fd x3 s = .ok .nx (eK T fd (i + n) x3') s := by
  have h := token_ok d T r c i s hd hl
  rw [ht] at h
  have hi := at_item (s := s) hd (by omega)
  have hn := notin_blank c s
  rw [hb] at hn
  exact ⟨some (.int ((i + n : Nat))), by simp [bnd, G.ret, rd, opt, eS, seqI, seqL, biop, bInt, bLen, bList, bAbs, binop, big, asg, fits, line, bIsi, isTy, bTuple, tBody, h, hi, hn]⟩
theorem tb_tok (hd : T.drop i = c :: r) (hl : T.length ≤ 900000) (ht : tokLen (c :: r) = some n) (hb : blank c = false) (hf : fitsT ((c :: r).take n) = true) (hfd : fd.length ≤ i) : ∃ x3', tBody d T i fd x3 s = .ok .nx (eK T (fd ++ [pw (i, (c :: r).take n)]) (i + n) x3') s := by
  have h := token_ok d T r c i s hd hl
  rw [ht] at h
  have hi := at_item (s := s) hd (by omega)
  obtain ⟨h1, h2, h3⟩ := drop_lt hd
  have hn := notin_blank c s
  rw [hb] at hn
  have hle := tokLen_le ht
  have hs := at_slice (T := T) (i := i) (k := n) (s := s) (by omega) (by omega)
  rw [hd] at hs
  obtain ⟨n', rfl⟩ : ∃ n', n = n' + 1 := ⟨n - 1, by omega⟩
  have hft := fitstoken_ok (d + 2) c (r.take n') s (by rw [List.length_take]; omega)
  rw [← List.take_succ_cons, hf] at hft
  have hs' : slice (.str T) (some (i : Int)) (some ((i : Int) + ((n' : Int) + 1))) s = some (.str ((c :: r).take (n' + 1))) := by
    rw [← hs]; congr 2
  have hl2 : fd.length + 1 ≤ 16777216 := by omega
  generalize (c :: r).take (n' + 1) = tk at *
  refine ⟨some (.int ((i + (n' + 1) : Nat))), ?_⟩
  simp [bnd, G.ret, rd, opt, eS, seqI, seqL, biop, bInt, bLen, bList, bAbs, binop, big, asg, fits, line, bIsi, isTy, bTuple, tBody, h, hi, hn, hs', hft, hl2, pw]
theorem tb_bad (hd : T.drop i = c :: r) (hl : T.length ≤ 900000) (ht : tokLen (c :: r) = some n) (hb : blank c = false) (hf : fitsT ((c :: r).take n) = false) : ∃ env', tBody d T i fd x3 s = .exc 1 [.int (i : Nat)] env' s := by
  have h := token_ok d T r c i s hd hl
  rw [ht] at h
  have hi := at_item (s := s) hd (by omega)
  obtain ⟨h1, h2, h3⟩ := drop_lt hd
  have hn := notin_blank c s
  rw [hb] at hn
  have hle := tokLen_le ht
  have hs := at_slice (T := T) (i := i) (k := n) (s := s) (by omega) (by omega)
  rw [hd] at hs
  obtain ⟨n', rfl⟩ : ∃ n', n = n' + 1 := ⟨n - 1, by omega⟩
  have hft := fitstoken_ok (d + 2) c (r.take n') s (by rw [List.length_take]; omega)
  rw [← List.take_succ_cons, hf] at hft
  have hs' : slice (.str T) (some (i : Int)) (some ((i : Int) + ((n' : Int) + 1))) s = some (.str ((c :: r).take (n' + 1))) := by
    rw [← hs]; congr 2
  have hr : evS pk.pg (callD pk.pg (d + 4)) (.raiseF 1 (.var 2)) [some (.str T), some (.lst fd), some (.int (i : Nat)), some (.int ((i : Int) + ((n' : Int) + 1)))] s = .exc 1 [.int (i : Nat)] [some (.str T), some (.lst fd), some (.int (i : Nat)), some (.int ((i : Int) + ((n' : Int) + 1)))] s := raise_ok (d := d + 2) (by simp [bnd, G.ret, rd, opt, eS, seqI, seqL, biop, bInt, bLen, bList, bAbs, binop, big, asg, fits, line, bIsi, isTy, bTuple])
  generalize (c :: r).take (n' + 1) = tk at *
  refine ⟨[some (.str T), some (.lst fd), some (.int (i : Nat)), some (.int ((i : Int) + ((n' : Int) + 1)))], ?_⟩
  simp [bnd, G.ret, rd, opt, eS, seqI, seqL, biop, bInt, bLen, bList, bAbs, binop, big, asg, fits, line, bIsi, isTy, bTuple, tBody, h, hi, hn, hs', hft, hr]
end
abbrev tLoop (d : Nat) (f : Nat) (env : Env) (s : G.ST) : G.RS := whileS (fun env => evE pk.pg (callD pk.pg (d + 4)) (.cmp .lt (.var 2) (.bi .len (.cons (.var 0) .nil))) env) (fun env s => evS pk.pg (callD pk.pg (d + 4)) (.seq (.asg (.v 3) (.call 11 (.cons (.var 0) (.cons (.var 2) .nil)))) (.seq (.ife (.cmp .notin (.ix (.var 0) (.var 2)) (.k (.str [32, 10]))) (.seq (.ife (.not (.call 13 (.cons (.sl (.var 0) (.itr (.var 2)) (.itr (.var 3))) .nil))) (.seq (.raiseF 1 (.var 2)) .nil) .nil) (.seq (.asg (.v 1) (.bin .add (.var 1) (.lst (.cons (.tup (.cons (.var 2) (.cons (.sl (.var 0) (.itr (.var 2)) (.itr (.var 3))) .nil))) .nil)))) .nil)) .nil) (.seq (.asg (.v 2) (.var 3)) .nil))) env s) f env s
theorem tin_loop (d : Nat) (T : List Nat) (s : G.ST) (hl : T.length ≤ 900000) : ∀ (f g i : Nat) (fd : List W) (x3 : Option W), (T.drop i).length ≤ f → f ≤ g → i ≤ T.length → fd.length ≤ i →
    match lx f i (T.drop i) with
    | .ok l => ∃ (i' : Nat) (x3' : Option W), tLoop d (g + 1) (eK T fd i x3) s = .ok .nx (eK T (fd ++ l.map pw) i' x3') s
    | .error e => ∃ env', tLoop d (g + 1) (eK T fd i x3) s = .exc 1 [.int (e : Nat)] env' s := by
  intro f
  have fin : ∀ (g i : Nat) (fd : List W) (x3 : Option W), T.drop i = [] → tLoop d (g + 1) (eK T fd i x3) s = .ok .nx (eK T (fd ++ ([] : List (Nat × Tok)).map pw) i x3) s := fun g i fd x3 h => by
    have hge := drop_nil h
    have hc : ¬ (i : Int) < T.length := by omega
    have hl2 : T.length ≤ 16777216 := by omega
    simp [bnd, G.ret, rd, opt, eS, seqI, seqL, biop, bInt, bLen, bList, bAbs, binop, big, asg, fits, line, bIsi, isTy, bTuple, tLoop, whileS, lt_int, hc, hl2]
  induction f with
  | zero =>
    intro g i fd x3 h1 h2 h3 h4
    have hd : T.drop i = [] := List.length_eq_zero_iff.mp (by omega)
    rw [hd]
    exact ⟨i, x3, fin g i fd x3 hd⟩
  | succ f ih =>
    intro g i fd x3 h1 h2 h3 h4
    cases hd : T.drop i with
    | nil => exact ⟨i, x3, fin g i fd x3 hd⟩
    | cons c r =>
      obtain ⟨g', rfl⟩ : ∃ g', g = g' + 1 := ⟨g - 1, by omega⟩
      obtain ⟨k1, k2, k3⟩ := drop_lt hd
      have hc : (i : Int) < T.length := by omega
      have hl2 : T.length ≤ 16777216 := by omega
      have hcond : evE pk.pg (callD pk.pg (d + 4)) (.cmp .lt (.var 2) (.bi .len (.cons (.var 0) .nil))) (eK T fd i x3) s = .ok (.bl true) s := by simp [bnd, G.ret, rd, opt, eS, seqI, seqL, biop, bInt, bLen, bList, bAbs, binop, big, asg, fits, line, bIsi, isTy, bTuple, lt_int, hc, hl2]
      have hnx : ∀ env', evS pk.pg (callD pk.pg (d + 4)) (.seq (.asg (.v 3) (.call 11 (.cons (.var 0) (.cons (.var 2) .nil)))) (.seq (.ife (.cmp .notin (.ix (.var 0) (.var 2)) (.k (.str [32, 10]))) (.seq (.ife (.not (.call 13 (.cons (.sl (.var 0) (.itr (.var 2)) (.itr (.var 3))) .nil))) (.seq (.raiseF 1 (.var 2)) .nil) .nil) (.seq (.asg (.v 1) (.bin .add (.var 1) (.lst (.cons (.tup (.cons (.var 2) (.cons (.sl (.var 0) (.itr (.var 2)) (.itr (.var 3))) .nil))) .nil)))) .nil)) .nil) (.seq (.asg (.v 2) (.var 3)) .nil))) (eK T fd i x3) s = .ok .nx env' s → tLoop d (g' + 1 + 1) (eK T fd i x3) s = tLoop d (g' + 1) env' s := fun env' h => by
        unfold tLoop
        rw [whileS]
        simp only [eS, hcond, h]
      have hex : ∀ e env', evS pk.pg (callD pk.pg (d + 4)) (.seq (.asg (.v 3) (.call 11 (.cons (.var 0) (.cons (.var 2) .nil)))) (.seq (.ife (.cmp .notin (.ix (.var 0) (.var 2)) (.k (.str [32, 10]))) (.seq (.ife (.not (.call 13 (.cons (.sl (.var 0) (.itr (.var 2)) (.itr (.var 3))) .nil))) (.seq (.raiseF 1 (.var 2)) .nil) .nil) (.seq (.asg (.v 1) (.bin .add (.var 1) (.lst (.cons (.tup (.cons (.var 2) (.cons (.sl (.var 0) (.itr (.var 2)) (.itr (.var 3))) .nil))) .nil)))) .nil)) .nil) (.seq (.asg (.v 2) (.var 3)) .nil))) (eK T fd i x3) s = .exc 1 [.int e] env' s → tLoop d (g' + 1 + 1) (eK T fd i x3) s = .exc 1 [.int e] env' s := fun e env' h => by
        unfold tLoop
        rw [whileS]
        simp only [eS, hcond, h]
      cases ht : tokLen (c :: r) with
      | none =>
        obtain ⟨env', h⟩ := tb_none d T r c i fd x3 s hd hl ht
        have e1 : lx (f + 1) i (c :: r) = .error (i + (c :: r).length) := by simp only [lx, ht]
        rw [e1]
        refine ⟨env', ?_⟩
        rw [hex _ _ h]
        have : i + (c :: r).length = T.length := by simp only [List.length_cons]; omega
        rw [this]
      | some n =>
        have hle := tokLen_le ht
        have hdd : T.drop (i + n) = (c :: r).drop n := by rw [← hd, List.drop_drop]
        have hlen : (T.drop (i + n)).length ≤ f := by rw [List.length_drop]; rw [List.length_drop] at h1; omega
        cases hb : blank c with
        | true =>
          obtain ⟨x3', h⟩ := tb_blank d T r c i n fd x3 s hd hl ht hb
          have e1 : lx (f + 1) i (c :: r) = lx f (i + n) (T.drop (i + n)) := by simp only [lx, ht, hb, if_true, hdd]
          rw [e1, hnx _ h]
          exact ih g' (i + n) fd x3' hlen (by omega) (by omega) (by omega)
        | false =>
          cases hf : fitsT ((c :: r).take n) with
          | true =>
            obtain ⟨x3', h⟩ := tb_tok d T r c i n fd x3 s hd hl ht hb hf h4
            have := ih g' (i + n) (fd ++ [pw (i, (c :: r).take n)]) x3' hlen (by omega) (by omega) (by simp [bnd, G.ret, rd, opt, eS, seqI, seqL, biop, bInt, bLen, bList, bAbs, binop, big, asg, fits, line, bIsi, isTy, bTuple]; omega)
            cases hq : lx f (i + n) (T.drop (i + n)) with
            | ok l =>
              rw [hq] at this
              have e1 : lx (f + 1) i (c :: r) = .ok ((i, (c :: r).take n) :: l) := by
                rw [hdd] at hq
                simp only [lx, ht, hb, hf, Bool.false_eq_true, if_false, if_true, hq]
              rw [e1, hnx _ h]
              obtain ⟨i', y, e⟩ := this
              refine ⟨i', y, ?_⟩
              rw [e]
              simp [bnd, G.ret, rd, opt, eS, seqI, seqL, biop, bInt, bLen, bList, bAbs, binop, big, asg, fits, line, bIsi, isTy, bTuple]
            | error e =>
              rw [hq] at this
              have e1 : lx (f + 1) i (c :: r) = .error e := by
                rw [hdd] at hq
                simp only [lx, ht, hb, hf, Bool.false_eq_true, if_false, if_true, hq]
              rw [e1, hnx _ h]
              exact this
          | false =>
            obtain ⟨env', h⟩ := tb_bad d T r c i n fd x3 s hd hl ht hb hf
            have e1 : lx (f + 1) i (c :: r) = .error i := by simp only [lx, ht, hb, hf, Bool.false_eq_true, if_false]
            rw [e1]
            exact ⟨env', hex _ _ h⟩
/-- the tokens of a text -/
def toks (T : List Nat) : Except Nat (List (Nat × Tok)) := lx T.length 0 T
theorem tokensin_ok (d : Nat) (T : List Nat) (s : G.ST) (hl : T.length ≤ 900000) : callD pk.pg (d + 5) 14 [.str T] s = match toks T with
    | .ok l => .ok (.lst (l.map pw)) s
    | .error e => .exc 1 [.int (e : Nat)] s := by
  have hw := tin_loop d T s hl T.length 999999 0 [] none (by simp [bnd, G.ret, rd, opt, eS, seqI, seqL, biop, bInt, bLen, bList, bAbs, binop, big, asg, fits, line, bIsi, isTy, bTuple]) (by omega) (by omega) (by simp [bnd, G.ret, rd, opt, eS, seqI, seqL, biop, bInt, bLen, bList, bAbs, binop, big, asg, fits, line, bIsi, isTy, bTuple])
  rw [List.drop_zero] at hw
  have hS : ∀ R, tLoop d (999999 + 1) (eK T [] 0 none) s = R → evS pk.pg (callD pk.pg (d + 4)) (.whl (.cmp .lt (.var 2) (.bi .len (.cons (.var 0) .nil))) (.seq (.asg (.v 3) (.call 11 (.cons (.var 0) (.cons (.var 2) .nil)))) (.seq (.ife (.cmp .notin (.ix (.var 0) (.var 2)) (.k (.str [32, 10]))) (.seq (.ife (.not (.call 13 (.cons (.sl (.var 0) (.itr (.var 2)) (.itr (.var 3))) .nil))) (.seq (.raiseF 1 (.var 2)) .nil) .nil) (.seq (.asg (.v 1) (.bin .add (.var 1) (.lst (.cons (.tup (.cons (.var 2) (.cons (.sl (.var 0) (.itr (.var 2)) (.itr (.var 3))) .nil))) .nil)))) .nil)) .nil) (.seq (.asg (.v 2) (.var 3)) .nil)))) [some (.str T), some (.lst []), some (.int 0), none] s = R := fun R h => by
    rw [evS_whl]
    exact h
  rw [call_eq (df := ⟨1, 4, b_tokens_in⟩) rfl rfl]
  unfold toks
  cases hq : lx T.length 0 T with
  | ok l =>
    rw [hq] at hw
    obtain ⟨i', y, e⟩ := hw
    have e := hS _ e
    simp only [b_tokens_in]
    simp [bnd, G.ret, rd, opt, eS, seqI, seqL, biop, bInt, bLen, bList, bAbs, binop, big, asg, fits, line, bIsi, isTy, bTuple, e]
  | error k =>
    rw [hq] at hw
    obtain ⟨env', e⟩ := hw
    have e := hS _ e
    simp only [b_tokens_in]
    simp [bnd, G.ret, rd, opt, eS, seqI, seqL, biop, bInt, bLen, bList, bAbs, binop, big, asg, fits, line, bIsi, isTy, bTuple, e]
end K02

set_option Elab.async false
set_option linter.all false
set_option maxRecDepth 100000
set_option maxHeartbeats 4000000
namespace K02
open G Q1
theorem fig_body {c : Nat} {r : List Nat} (hf : figB (c :: r) = true) : ∀ x ∈ bodyT (c :: r), 48 ≤ x ∧ x ≤ 57 := by
  have hd : ∀ x ∈ figs, 48 ≤ x ∧ x ≤ 57 := by decide
  have hm : ∀ x ∈ unsg (c :: r), x ∈ figs := by
    have h : madeB (unsg (c :: r)) figs = true := hf
    simp only [madeB, Bool.and_eq_true, List.all_eq_true, decide_eq_true_eq] at h
    exact h.2
  have hz : ∀ (l : List Nat) x, x ∈ zs l → x ∈ l := fun l => by
    induction l with
    | nil => exact fun x h => h
    | cons a l ih =>
      intro x h
      unfold zs at h
      rw [List.dropWhile_cons] at h
      split at h
      · exact List.mem_cons_of_mem _ (ih x h)
      · exact h
  intro x hx
  unfold bodyT at hx
  have hx := hz _ x hx
  by_cases h1 : c = 43
  · subst h1; exact hd x (hm x hx)
  · by_cases h2 : c = 45
    · subst h2; exact hd x (hm x hx)
    · have hs : sgd (c :: r) = false := by simp [bnd, G.ret, rd, opt, eS, seqI, seqL, biop, bInt, bLen, bList, bAbs, binop, big, asg, fits, line, bIsi, isTy, bTuple, sgd, h1, h2]
      rw [hs] at hx
      rw [unsg_no h1 h2] at hm
      exact hd x (hm x (by simpa [bnd, G.ret, rd, opt, eS, seqI, seqL, biop, bInt, bLen, bList, bAbs, binop, big, asg, fits, line, bIsi, isTy, bTuple] using hx))
theorem intby_ok (d c : Nat) (r : List Nat) (s : G.ST) (hl : r.length + 1 ≤ 16777216) (hf : figB (c :: r) = true) : callD pk.pg (d + 1) 15 [.str (c :: r)] s = .ok (.int (intB (c :: r))) s := by
  have hi := item0 c r s hl
  have hb := fig_body hf
  have hin : cmpop .isin (.str [c]) (.str [43, 45]) s = some (sgd (c :: r)) := by rw [cmp_in1]; rfl
  have hs1 := suf1 (c :: r) s (by simpa [bnd, G.ret, rd, opt, eS, seqI, seqL, biop, bInt, bLen, bList, bAbs, binop, big, asg, fits, line, bIsi, isTy, bTuple] using hl)
  have hst : evE pk.pg (callD pk.pg d) (.meth .lstrip (.ife (.cmp .isin (.ix (.var 0) (.k (.int 0))) (.k (.str [43, 45]))) (.sl (.var 0) (.itr (.k (.int 1))) .no) (.var 0)) (.cons (.k (.str [48])) .nil)) [some (.str (c :: r)), none, none] s = .ok (.str (bodyT (c :: r))) s := by
    have hz : ∀ l : List Nat, meStrip l [.str [48]] = if l.length ≤ line then some (.str (zs l)) else none := fun l => rfl
    cases hsg : sgd (c :: r) with
    | true =>
      rw [hsg] at hin
      have e : bodyT (c :: r) = zs r := by simp [bnd, G.ret, rd, opt, eS, seqI, seqL, biop, bInt, bLen, bList, bAbs, binop, big, asg, fits, line, bIsi, isTy, bTuple, bodyT, hsg]
      have hl2 : r.length ≤ 16777216 := by omega
      rw [e]
      simp [bnd, G.ret, rd, opt, eS, seqI, seqL, biop, bInt, bLen, bList, bAbs, binop, big, asg, fits, line, bIsi, isTy, bTuple, hi, hin, hs1, Me.isL, meS, hz, hl2]
    | false =>
      rw [hsg] at hin
      have e : bodyT (c :: r) = zs (c :: r) := by simp [bnd, G.ret, rd, opt, eS, seqI, seqL, biop, bInt, bLen, bList, bAbs, binop, big, asg, fits, line, bIsi, isTy, bTuple, bodyT, hsg]
      rw [e]
      simp [bnd, G.ret, rd, opt, eS, seqI, seqL, biop, bInt, bLen, bList, bAbs, binop, big, asg, fits, line, bIsi, isTy, bTuple, hi, hin, Me.isL, meS, hz, hl]
  have hnum : evE pk.pg (callD pk.pg d) (.ife (.cmp .lt (.bi .len (.cons (.var 1) .nil)) (.k (.int 15))) (.bi .int (.cons (.bin .add (.k (.str [48])) (.var 1)) .nil)) (.bin .pow (.k (.int 10)) (.k (.int 15)))) [some (.str (c :: r)), some (.str (bodyT (c :: r))), none] s = .ok (.int (numT (c :: r))) s := by
    unfold numT
    have hbl : (bodyT (c :: r)).length ≤ 16777216 := by
      have h1 := zs_len (if sgd (c :: r) = true then (c :: r).drop 1 else c :: r)
      have h2 : (if sgd (c :: r) = true then (c :: r).drop 1 else c :: r).length ≤ r.length + 1 := by split <;> simp [bnd, G.ret, rd, opt, eS, seqI, seqL, biop, bInt, bLen, bList, bAbs, binop, big, asg, fits, line, bIsi, isTy, bTuple]
      unfold bodyT
      omega
    generalize bodyT (c :: r) = b at *
    by_cases h15 : b.length < 15
    · have h15' : (b.length : Int) < 15 := by omega
      have hall : (b.all fun c => decide (48 ≤ c) && decide (c ≤ 57)) = true := by
        rw [List.all_eq_true]
        intro x hx
        simpa [bnd, G.ret, rd, opt, eS, seqI, seqL, biop, bInt, bLen, bList, bAbs, binop, big, asg, fits, line, bIsi, isTy, bTuple] using hb x hx
      have hall2 : ∀ x, x ∈ b → 48 ≤ x ∧ x ≤ 57 := hb
      have l1 : 1 + b.length ≤ 16777216 := by omega
      have l2 : b.length + 1 ≤ 640 := by omega
      rw [if_pos h15]
      simp [bnd, G.ret, rd, opt, eS, seqI, seqL, biop, bInt, bLen, bList, bAbs, binop, big, asg, fits, line, bIsi, isTy, bTuple, lt_int, h15', hbl, l1, l2]
      rw [if_pos hall2]
    · have h15' : ¬ (b.length : Int) < 15 := by omega
      rw [if_neg h15]
      simp [bnd, G.ret, rd, opt, eS, seqI, seqL, biop, bInt, bLen, bList, bAbs, binop, big, asg, fits, line, bIsi, isTy, bTuple, lt_int, h15', hbl]
  rw [call_eq (df := ⟨1, 3, b_integer_by⟩) rfl rfl]
  have hsum : b_integer_by = .seq (.asg (.v 1) (.meth .lstrip (.ife (.cmp .isin (.ix (.var 0) (.k (.int 0))) (.k (.str [43, 45]))) (.sl (.var 0) (.itr (.k (.int 1))) .no) (.var 0)) (.cons (.k (.str [48])) .nil))) (.seq (.asg (.v 2) (.ife (.cmp .lt (.bi .len (.cons (.var 1) .nil)) (.k (.int 15))) (.bi .int (.cons (.bin .add (.k (.str [48])) (.var 1)) .nil)) (.bin .pow (.k (.int 10)) (.k (.int 15))))) (.seq (.rt (.ife (.cmp .eq (.ix (.var 0) (.k (.int 0))) (.k (.str [45]))) (.neg (.var 2)) (.var 2))) .nil)) := rfl
  rw [hsum]
  have hlast : evE pk.pg (callD pk.pg d) (.ife (.cmp .eq (.ix (.var 0) (.k (.int 0))) (.k (.str [45]))) (.neg (.var 2)) (.var 2)) [some (.str (c :: r)), some (.str (bodyT (c :: r))), some (.int (numT (c :: r)))] s = .ok (.int (intB (c :: r))) s := by
    unfold intB
    by_cases h : c = 45
    · subst h
      simp [bnd, G.ret, rd, opt, eS, seqI, seqL, biop, bInt, bLen, bList, bAbs, binop, big, asg, fits, line, bIsi, isTy, bTuple, hi, eq_str]
    · have h' : ([c] == [45]) = false := by simpa [bnd, G.ret, rd, opt, eS, seqI, seqL, biop, bInt, bLen, bList, bAbs, binop, big, asg, fits, line, bIsi, isTy, bTuple] using h
      simp [bnd, G.ret, rd, opt, eS, seqI, seqL, biop, bInt, bLen, bList, bAbs, binop, big, asg, fits, line, bIsi, isTy, bTuple, hi, eq_str, h', h]
  generalize numT (c :: r) = nt at *
  generalize bodyT (c :: r) = bt at *
  simp only [xS_seq, xS_asg, xS_rt, List.map_cons, List.map_nil, List.cons_append, List.nil_append, List.replicate_succ, List.replicate_zero, eS, hst, G.asg, List.length_cons, List.length_nil]
  simp [bnd, G.ret, rd, opt, eS, seqI, seqL, biop, bInt, bLen, bList, bAbs, binop, big, asg, fits, line, bIsi, isTy, bTuple, hnum, hlast, -xE_ife]
theorem atomby_ok (d c : Nat) (r : List Nat) (s : G.ST) (hl : r.length + 1 ≤ 900000) (hq : c = 34 → (lets false (mid (c :: r))).isSome = true) : callD pk.pg (d + 3) 16 [.str (c :: r)] s = .ok (atomB (c :: r)) s := by
  have hi := item0 c r s (by omega)
  have h2 := letters_ok (d + 1) (c :: r) s (by simp [bnd, G.ret, rd, opt, eS, seqI, seqL, biop, bInt, bLen, bList, bAbs, binop, big, asg, fits, line, bIsi, isTy, bTuple]; omega)
  have hf := fig_ok d (c :: r) s (by simp [bnd, G.ret, rd, opt, eS, seqI, seqL, biop, bInt, bLen, bList, bAbs, binop, big, asg, fits, line, bIsi, isTy, bTuple]; omega)
  rw [call_eq (df := ⟨1, 1, b_atom_by⟩) rfl rfl]
  unfold atomB
  by_cases q : c = 34
  · subst q
    obtain ⟨m, hm⟩ := Option.isSome_iff_exists.mp (hq rfl)
    rw [hm] at h2 ⊢
    have hml : m.length ≤ (34 :: r).length := by
      have : ∀ (l : List Nat) (b : Bool) m, lets b l = some m → m.length ≤ l.length := fun l => by
        induction l with
        | nil => intro b m h; cases b <;> (simp [bnd, G.ret, rd, opt, eS, seqI, seqL, biop, bInt, bLen, bList, bAbs, binop, big, asg, fits, line, bIsi, isTy, bTuple, lets] at h; subst h; simp [bnd, G.ret, rd, opt, eS, seqI, seqL, biop, bInt, bLen, bList, bAbs, binop, big, asg, fits, line, bIsi, isTy, bTuple])
        | cons a l ih =>
          intro b m h
          simp only [lets] at h
          split at h
          · cases h
          · split at h
            · have := ih _ _ h; simp only [List.length_cons]; omega
            · rw [Option.map_eq_some_iff] at h
              obtain ⟨m', h, rfl⟩ := h
              have := ih _ _ h
              simp only [List.length_cons]; omega
      have h1 := this _ _ _ hm
      have h3 : (mid (34 :: r)).length ≤ (34 :: r).length := by simp only [mid, List.length_take, List.length_drop]; omega
      omega
    have l1 : 1 + m.length ≤ 16777216 := by simp only [List.length_cons] at hml; omega
    simp only [b_atom_by]
    simp [bnd, G.ret, rd, opt, eS, seqI, seqL, biop, bInt, bLen, bList, bAbs, binop, big, asg, fits, line, bIsi, isTy, bTuple, hi, eq_str, h2, l1]
  · have q1 : ([c] == [34]) = false := by simpa [bnd, G.ret, rd, opt, eS, seqI, seqL, biop, bInt, bLen, bList, bAbs, binop, big, asg, fits, line, bIsi, isTy, bTuple] using q
    by_cases q2 : c :: r = nil3
    · rw [q2] at hi ⊢
      have q3 : c = 110 := by cases q2; rfl
      subst q3
      have hn : cmpop .eq (.str nil3) (.str [110, 105, 108]) s = some true := rfl
      have hi' : item (.str [110, 105, 108]) (.int 0) s = some (.str [110]) := hi
      simp only [b_atom_by]
      simp [bnd, G.ret, rd, opt, eS, seqI, seqL, biop, bInt, bLen, bList, bAbs, binop, big, asg, fits, line, bIsi, isTy, bTuple, hi', eq_str, nil3]
    · have hn : ((c :: r) == [110, 105, 108]) = false := by simpa [bnd, G.ret, rd, opt, eS, seqI, seqL, biop, bInt, bLen, bList, bAbs, binop, big, asg, fits, line, bIsi, isTy, bTuple, nil3] using q2
      cases q3 : figB (c :: r) with
      | true =>
        rw [q3] at hf
        have h4 := intby_ok (d + 1) c r s (by omega) q3
        simp only [b_atom_by]
        simp [bnd, G.ret, rd, opt, eS, seqI, seqL, biop, bInt, bLen, bList, bAbs, binop, big, asg, fits, line, bIsi, isTy, bTuple, hi, eq_str, q1, hn, hf, h4, q, q2]
      | false =>
        rw [q3] at hf
        simp only [b_atom_by]
        simp [bnd, G.ret, rd, opt, eS, seqI, seqL, biop, bInt, bLen, bList, bAbs, binop, big, asg, fits, line, bIsi, isTy, bTuple, hi, eq_str, q1, hn, hf, q, q2]
end K02

set_option Elab.async false
set_option linter.all false
set_option maxRecDepth 100000
set_option maxHeartbeats 4000000
namespace K02
open G Q1
def frW (p : Fr) : W := .tup [.str p.1, .tup p.2]
def lnL (R : List Fr) : List W := R.reverse.map frW
abbrev lnW (R : List Fr) : W := .lst (lnL R)
theorem lnL_cons (p : Fr) (R : List Fr) : lnL (p :: R) = lnL R ++ [frW p] := by simp [bnd, G.ret, rd, opt, eS, seqI, seqL, biop, bInt, bLen, bList, bAbs, binop, big, asg, asgs, fits, line, bIsi, isTy, bTuple, lnL]
theorem lnL_len (R : List Fr) : (lnL R).length = R.length := by simp [bnd, G.ret, rd, opt, eS, seqI, seqL, biop, bInt, bLen, bList, bAbs, binop, big, asg, asgs, fits, line, bIsi, isTy, bTuple, lnL]
theorem last_t (xs : List W) (p : Fr) (s : G.ST) : item (.lst (xs ++ [frW p])) (.int (-1)) s = some (frW p) := item_last xs _ s
theorem fr0 (p : Fr) (s : G.ST) : item (frW p) (.int 0) s = some (.str p.1) := item_t0 _ _ s
theorem fr1 (p : Fr) (s : G.ST) : item (frW p) (.int 1) s = some (.tup p.2) := item_t1 _ _ _ s
theorem soft_fr (p : Fr) : soft (frW p) = frW p := rfl
def strip : List Fr → W → List Fr × W
  | [], w => ([], w)
  | (t, ws) :: R, w => if t = [39] then strip R (.tup [.str quoS, w]) else if t = [35, 39] then strip R (.tup [.str funS, w]) else ((t, ws) :: R, w)
theorem push_strip : ∀ (R : List Fr) (w : W), pushR R w = match strip R w with
    | ((t, ws) :: R', w') => (t, ws ++ [w']) :: R'
    | ([], _) => []
  | [], w => rfl
  | (t, ws) :: R, w => by
    unfold pushR strip
    split
    · exact push_strip R _
    · split
      · exact push_strip R _
      · rfl
def okQ (R : List Fr) : Prop := ∃ p ∈ R, p.1 ≠ [39] ∧ p.1 ≠ [35, 39]
abbrev wC : E := (.cmp .isin (.ix (.ix (.var 0) (.neg (.k (.int 1)))) (.k (.int 0))) (.tup (.cons (.k (.str [39])) (.cons (.k (.str [35, 39])) .nil))))
abbrev wB : G.S := (.seq (.asg (.v 1) (.tup (.cons (.ife (.cmp .eq (.ix (.ix (.var 0) (.neg (.k (.int 1)))) (.k (.int 0))) (.k (.str [39]))) (.k (.str [113, 117, 111, 116, 101])) (.k (.str [102, 117, 110, 99, 116, 105, 111, 110]))) (.cons (.var 1) .nil)))) (.seq (.asg (.v 0) (.sl (.var 0) .no (.itr (.neg (.k (.int 1)))))) .nil))
theorem strip_ok : ∀ (R : List Fr) (w : W), okQ R → ∃ t ws R', (strip R w).1 = (t, ws) :: R' ∧ R'.length + 1 ≤ R.length ∧ (∀ p ∈ (t, ws) :: R', p ∈ R) ∧ t ≠ [39] ∧ t ≠ [35, 39]
  | [], w, h => by obtain ⟨p, hp, _⟩ := h; cases hp
  | (t, ws) :: R, w, h => by
    obtain ⟨p, hp, h1, h2⟩ := h
    unfold strip
    by_cases q1 : t = [39]
    · rw [if_pos q1]
      obtain ⟨t', ws', R', e, l, m, n⟩ := strip_ok R (.tup [.str quoS, w]) ⟨p, by
        rcases List.mem_cons.mp hp with e | e
        · rw [e] at h1; exact (h1 q1).elim
        · exact e, h1, h2⟩
      exact ⟨t', ws', R', e, by simp only [List.length_cons]; omega, fun x hx => List.mem_cons_of_mem _ (m x hx), n⟩
    · rw [if_neg q1]
      by_cases q2 : t = [35, 39]
      · rw [if_pos q2]
        obtain ⟨t', ws', R', e, l, m, n⟩ := strip_ok R (.tup [.str funS, w]) ⟨p, by
          rcases List.mem_cons.mp hp with e | e
          · rw [e] at h2; exact (h2 q2).elim
          · exact e, h1, h2⟩
        exact ⟨t', ws', R', e, by simp only [List.length_cons]; omega, fun x hx => List.mem_cons_of_mem _ (m x hx), n⟩
      · rw [if_neg q2]
        exact ⟨t, ws, R, rfl, by simp [bnd, G.ret, rd, opt, eS, seqI, seqL, biop, bInt, bLen, bList, bAbs, binop, big, asg, asgs, fits, line, bIsi, isTy, bTuple], fun x hx => hx, q1, q2⟩
theorem wd_loop (d : Nat) (s : G.ST) : ∀ (R : List Fr) (w : W) (f : Nat), okQ R → R.length < f →
    whileS (fun env => evE pk.pg (callD pk.pg d) wC env) (fun env s => evS pk.pg (callD pk.pg d) wB env s) f [some (lnW R), some w] s = .ok .nx [some (lnW (strip R w).1), some (strip R w).2] s
  | [], w, f, h, _ => by obtain ⟨p, hp, _⟩ := h; cases hp
  | (t, ws) :: R, w, f, h, hf => by
    obtain ⟨p, hp, h1, h2⟩ := h
    obtain ⟨f, rfl⟩ : ∃ f', f = f' + 1 := ⟨f - 1, by omega⟩
    have hin := in_strs t [[39], [35, 39]] s
    have hin : cmpop .isin (.str t) (.tup [.str [39], .str [35, 39]]) s = some (decide (t ∈ [[39], [35, 39]])) := hin
    have hcond : evE pk.pg (callD pk.pg d) wC [some (.lst (lnL R ++ [frW (t, ws)])), some w] s = .ok (.bl (decide (t ∈ [[39], [35, 39]]))) s := by
      simp [bnd, G.ret, rd, opt, eS, seqI, seqL, biop, bInt, bLen, bList, bAbs, binop, big, asg, asgs, fits, line, bIsi, isTy, bTuple, wC, last_t, fr0, soft_fr, hin]
    have hsi := slice_init (lnL R) (frW (t, ws)) s
    rw [show lnW ((t, ws) :: R) = .lst (lnL R ++ [frW (t, ws)]) from by rw [lnW, lnL_cons]]
    unfold strip
    by_cases q1 : t = [39]
    · subst q1
      have hbody : evS pk.pg (callD pk.pg d) wB [some (.lst (lnL R ++ [frW ([39], ws)])), some w] s = .ok .nx [some (lnW R), some (.tup [.str quoS, w])] s := by
        simp [bnd, G.ret, rd, opt, eS, seqI, seqL, biop, bInt, bLen, bList, bAbs, binop, big, asg, asgs, fits, line, bIsi, isTy, bTuple, wB, last_t, fr0, soft_fr, eq_str, hsi, quoS]
      rw [whileS]
      simp only [eS, hcond, hbody]
      rw [if_pos trivial]
      exact wd_loop d s R _ f ⟨p, by
        rcases List.mem_cons.mp hp with e | e
        · rw [e] at h1; exact (h1 rfl).elim
        · exact e, h1, h2⟩ (by simp only [List.length_cons] at hf; omega)
    · rw [if_neg q1]
      by_cases q2 : t = [35, 39]
      · subst q2
        have hbody : evS pk.pg (callD pk.pg d) wB [some (.lst (lnL R ++ [frW ([35, 39], ws)])), some w] s = .ok .nx [some (lnW R), some (.tup [.str funS, w])] s := by
          simp [bnd, G.ret, rd, opt, eS, seqI, seqL, biop, bInt, bLen, bList, bAbs, binop, big, asg, asgs, fits, line, bIsi, isTy, bTuple, wB, last_t, fr0, soft_fr, eq_str, hsi, funS]
        rw [whileS]
        simp only [eS, hcond, hbody]
        rw [if_pos trivial]
        exact wd_loop d s R _ f ⟨p, by
          rcases List.mem_cons.mp hp with e | e
          · rw [e] at h2; exact (h2 rfl).elim
          · exact e, h1, h2⟩ (by simp only [List.length_cons] at hf; omega)
      · rw [if_neg q2]
        have hno : decide (t ∈ [[39], [35, 39]]) = false := by simp [bnd, G.ret, rd, opt, eS, seqI, seqL, biop, bInt, bLen, bList, bAbs, binop, big, asg, asgs, fits, line, bIsi, isTy, bTuple, q1, q2]
        rw [hno] at hcond
        rw [whileS]
        simp only [eS, hcond]
        rw [lnW, lnL_cons]
theorem withdatum_ok (d : Nat) (R : List Fr) (w : W) (s : G.ST) (h : okQ R) (hl : R.length ≤ 500000) (hw : ∀ p ∈ R, p.2.length ≤ 1000000) : callD pk.pg (d + 1) 17 [lnW R, w] s = .ok (lnW (pushR R w)) s := by
  have hlp := wd_loop d s R w 1000000 h (by omega)
  have hS : evS pk.pg (callD pk.pg d) (.whl wC wB) [some (lnW R), some w] s = .ok .nx [some (lnW (strip R w).1), some (strip R w).2] s := by rw [evS_whl]; exact hlp
  obtain ⟨t, ws, R', e, l, m, _⟩ := strip_ok R w h
  rw [push_strip]
  generalize strip R w = st at *
  obtain ⟨R2, w2⟩ := st
  have e : R2 = (t, ws) :: R' := e
  subst e
  have hS : evS pk.pg (callD pk.pg d) (.whl wC wB) [some (lnW R), some w] s = .ok .nx [some (lnW ((t, ws) :: R')), some w2] s := hS
  show _ = G.R.ok (lnW ((t, ws ++ [w2]) :: R')) s
  have hws := hw _ (m _ List.mem_cons_self)
  try simp only at hws
  have l1 : ws.length + 1 ≤ 16777216 := by omega
  have l2 : (lnL R').length + 1 ≤ 16777216 := by rw [lnL_len]; omega
  have hsi := slice_init (lnL R') (frW (t, ws)) s
  have hS : evS pk.pg (callD pk.pg d) (.whl wC wB) [some (lnW R), some w] s = .ok .nx [some (.lst (lnL R' ++ [frW (t, ws)])), some w2] s := by rw [hS, lnW, lnL_cons]
  rw [show lnW ((t, ws ++ [w2]) :: R') = .lst (lnL R' ++ [frW (t, ws ++ [w2])]) from by rw [lnW, lnL_cons]]
  rw [call_eq (df := ⟨2, 2, b_with_datum⟩) rfl rfl]
  have hb : b_with_datum = .seq (.whl wC wB) (.seq (.rt (.bin .add (.sl (.var 0) .no (.itr (.neg (.k (.int 1))))) (.lst (.cons (.tup (.cons (.ix (.ix (.var 0) (.neg (.k (.int 1)))) (.k (.int 0))) (.cons (.bin .add (.ix (.ix (.var 0) (.neg (.k (.int 1)))) (.k (.int 1))) (.tup (.cons (.var 1) .nil))) .nil))) .nil)))) .nil) := rfl
  rw [hb]
  simp [bnd, G.ret, rd, opt, eS, seqI, seqL, biop, bInt, bLen, bList, bAbs, binop, big, asg, asgs, fits, line, bIsi, isTy, bTuple, hS, last_t, fr0, fr1, soft_fr, hsi, l1, l2]
  rfl
end K02

set_option Elab.async false
set_option linter.all false
set_option maxRecDepth 100000
set_option maxHeartbeats 4000000
namespace K02
open G Q1
structure TkF (t : Tok) : Prop where
  ne : t ≠ []
  ft : fitsT t = true
  ln : t.length ≤ 900000
theorem lx_toks : ∀ (f i : Nat) (r : List Nat) (l : List (Nat × Tok)), r.length ≤ 900000 → lx f i r = .ok l → l.length ≤ r.length ∧ ∀ p ∈ l, TkF p.2
  | 0, i, r, l, _, h => by cases h; simp [bnd, G.ret, rd, opt, eS, seqI, seqL, biop, bInt, bLen, bList, bAbs, binop, big, asg, asgs, fits, line, bIsi, isTy, bTuple]
  | f + 1, i, [], l, _, h => by cases h; simp [bnd, G.ret, rd, opt, eS, seqI, seqL, biop, bInt, bLen, bList, bAbs, binop, big, asg, asgs, fits, line, bIsi, isTy, bTuple]
  | f + 1, i, c :: r, l, hr, h => by
    simp only [lx] at h
    cases ht : tokLen (c :: r) with
    | none => rw [ht] at h; cases h
    | some n =>
      rw [ht] at h
      have hle := tokLen_le ht
      have hd : ((c :: r).drop n).length + 1 ≤ (c :: r).length := by rw [List.length_drop]; simp only [List.length_cons]; omega
      dsimp only at h
      split at h
      · have := lx_toks f _ _ l (by omega) h
        exact ⟨by omega, this.2⟩
      · split at h
        · rename_i hf
          cases hq : lx f (i + n) ((c :: r).drop n) with
          | error e => rw [hq] at h; cases h
          | ok l' =>
            rw [hq] at h
            cases h
            have := lx_toks f _ _ l' (by omega) hq
            refine ⟨by simp only [List.length_cons] at hd ⊢; omega, fun p hp => ?_⟩
            rcases List.mem_cons.mp hp with e | e
            · rw [e]
              refine ⟨?_, hf, by rw [List.length_take]; omega⟩
              obtain ⟨n', rfl⟩ : ∃ n', n = n' + 1 := ⟨n - 1, by omega⟩
              simp [bnd, G.ret, rd, opt, eS, seqI, seqL, biop, bInt, bLen, bList, bAbs, binop, big, asg, asgs, fits, line, bIsi, isTy, bTuple]
            · exact this.2 p e
        · cases h
theorem ne_tup0 (xs : List W) (s : G.ST) : cmpop .ne (.tup xs) (.tup []) s = some (!xs.isEmpty) := by
  cases xs with
  | nil => rfl
  | cons x xs =>
    have e1 : eqOk 64 (.tup (x :: xs)) (.tup []) = true := by rw [eqOk]; rfl
    have e2 : weq (.tup (x :: xs)) (.tup []) = false := rfl
    simp [bnd, G.ret, rd, opt, eS, seqI, seqL, biop, bInt, bLen, bList, bAbs, binop, big, asg, asgs, fits, line, bIsi, isTy, bTuple, cmpop, wEq, deref, e1, e2]
theorem item_l0 (a : W) (xs : List W) (s : G.ST) : item (.lst (a :: xs)) (.int 0) s = some a := by
  have : ixOf 0 (a :: xs).length = some 0 := by simp [bnd, G.ret, rd, opt, eS, seqI, seqL, biop, bInt, bLen, bList, bAbs, binop, big, asg, asgs, fits, line, bIsi, isTy, bTuple, ixOf]
  simp only [item, seqI, Option.bind_some, this, List.getElem?_cons_zero]
abbrev wf (R0 : List Fr) (bw : List W) : List Fr := R0 ++ [([], bw)]
theorem wf_first (R0 : List Fr) (bw : List W) : lnL (wf R0 bw) = frW ([], bw) :: lnL R0 := by simp [bnd, G.ret, rd, opt, eS, seqI, seqL, biop, bInt, bLen, bList, bAbs, binop, big, asg, asgs, fits, line, bIsi, isTy, bTuple, lnL]
theorem wf_cons (R0 : List Fr) (bw : List W) : ∃ p R', wf R0 bw = p :: R' := by cases R0 <;> simp [bnd, G.ret, rd, opt, eS, seqI, seqL, biop, bInt, bLen, bList, bAbs, binop, big, asg, asgs, fits, line, bIsi, isTy, bTuple]
theorem wf_bot (R0 : List Fr) (bw : List W) : bot (wf R0 bw) = bw := by
  unfold bot
  rw [List.getLast?_append]
  rfl
theorem push_wf {bw : List W} : ∀ (R0 : List Fr) (w : W) (m : Nat), (∀ p ∈ wf R0 bw, p.2.length ≤ m) → ∃ R1 bw', pushR (wf R0 bw) w = wf R1 bw' ∧ R1.length ≤ R0.length ∧ ∀ p ∈ wf R1 bw', p.2.length ≤ m + 1
  | [], w, m, h => ⟨[], bw ++ [w], by simp [bnd, G.ret, rd, opt, eS, seqI, seqL, biop, bInt, bLen, bList, bAbs, binop, big, asg, asgs, fits, line, bIsi, isTy, bTuple, pushR], Nat.le_refl _, fun p hp => by
    have : p = ([], bw ++ [w]) := by simpa [bnd, G.ret, rd, opt, eS, seqI, seqL, biop, bInt, bLen, bList, bAbs, binop, big, asg, asgs, fits, line, bIsi, isTy, bTuple] using hp
    have := h ([], bw) (by simp [bnd, G.ret, rd, opt, eS, seqI, seqL, biop, bInt, bLen, bList, bAbs, binop, big, asg, asgs, fits, line, bIsi, isTy, bTuple])
    simp_all [bnd, G.ret, rd, opt, eS, seqI, seqL, biop, bInt, bLen, bList, bAbs, binop, big, asg, asgs, fits, line, bIsi, isTy, bTuple]⟩
  | (t, ws) :: R0, w, m, h => by
    have h' : ∀ p ∈ wf R0 bw, p.2.length ≤ m := fun p hp => h p (List.mem_cons_of_mem _ hp)
    show ∃ R1 bw', pushR ((t, ws) :: wf R0 bw) w = wf R1 bw' ∧ _
    unfold pushR
    split
    · obtain ⟨R1, bw', e, l, k⟩ := push_wf R0 (.tup [.str quoS, w]) m h'
      exact ⟨R1, bw', e, by simp only [List.length_cons]; omega, k⟩
    · split
      · obtain ⟨R1, bw', e, l, k⟩ := push_wf R0 (.tup [.str funS, w]) m h'
        exact ⟨R1, bw', e, by simp only [List.length_cons]; omega, k⟩
      · refine ⟨(t, ws ++ [w]) :: R0, bw, rfl, Nat.le_refl _, fun p hp => ?_⟩
        rcases List.mem_cons.mp hp with e | e
        · have := h (t, ws) List.mem_cons_self
          rw [e]
          simp only [List.length_append, List.length_singleton]
          simp only at this
          omega
        · have := h' p e; omega
theorem okQ_wf (R0 : List Fr) (bw : List W) : okQ (wf R0 bw) := ⟨([], bw), by simp [bnd, G.ret, rd, opt, eS, seqI, seqL, biop, bInt, bLen, bList, bAbs, binop, big, asg, asgs, fits, line, bIsi, isTy, bTuple], by simp [bnd, G.ret, rd, opt, eS, seqI, seqL, biop, bInt, bLen, bList, bAbs, binop, big, asg, asgs, fits, line, bIsi, isTy, bTuple], by simp [bnd, G.ret, rd, opt, eS, seqI, seqL, biop, bInt, bLen, bList, bAbs, binop, big, asg, asgs, fits, line, bIsi, isTy, bTuple]⟩
section
variable (d : Nat) (tk lw : W) (i : Nat) (t : Tok) (R0 : List Fr) (bw : List W) (x3 x4 : Option W) (s : G.ST)
abbrev eD (R : List Fr) : Env := [some tk, some lw, some (lnW R), some (.int (i : Nat)), some (.str t)]
abbrev dS : W → Env → G.ST → G.RS := stepH pk.pg (callD pk.pg (d + 3)) (.cons (.v 3) (.cons (.v 4) .nil)) (.seq (.ife (.or (.cmp .ne (.ix (.ix (.var 2) (.k (.int 0))) (.k (.int 1))) (.tup .nil)) (.and (.cmp .eq (.var 4) (.k (.str [41]))) (.cmp .ne (.ix (.ix (.var 2) (.neg (.k (.int 1)))) (.k (.int 0))) (.k (.str [40]))))) (.seq (.raiseF 1 (.var 3)) .nil) .nil) (.seq (.ife (.cmp .isin (.var 4) (.tup (.cons (.k (.str [40])) (.cons (.k (.str [39])) (.cons (.k (.str [35, 39])) .nil))))) (.seq (.asg (.v 2) (.bin .add (.var 2) (.lst (.cons (.tup (.cons (.var 4) (.cons (.tup .nil) .nil))) .nil)))) .nil) (.seq (.ife (.cmp .eq (.var 4) (.k (.str [41]))) (.seq (.asg (.v 2) (.call 17 (.cons (.sl (.var 2) .no (.itr (.neg (.k (.int 1))))) (.cons (.ix (.ix (.var 2) (.neg (.k (.int 1)))) (.k (.int 1))) .nil)))) .nil) (.seq (.asg (.v 2) (.call 17 (.cons (.var 2) (.cons (.call 16 (.cons (.var 4) .nil)) .nil)))) .nil)) .nil)) .nil))
theorem db_cond : evE pk.pg (callD pk.pg (d + 3)) (.or (.cmp .ne (.ix (.ix (.var 2) (.k (.int 0))) (.k (.int 1))) (.tup .nil)) (.and (.cmp .eq (.var 4) (.k (.str [41]))) (.cmp .ne (.ix (.ix (.var 2) (.neg (.k (.int 1)))) (.k (.int 0))) (.k (.str [40]))))) (eD tk lw i t (wf R0 bw)) s = .ok (.bl (badD (wf R0 bw) t)) s := by
  obtain ⟨p, R', hR⟩ := wf_cons R0 bw
  have h1 : evE pk.pg (callD pk.pg (d + 3)) (.cmp .ne (.ix (.ix (.var 2) (.k (.int 0))) (.k (.int 1))) (.tup .nil)) (eD tk lw i t (wf R0 bw)) s = .ok (.bl (!bw.isEmpty)) s := by
    have hL := wf_first R0 bw
    have hn := ne_tup0 bw s
    unfold eD lnW
    generalize lnL (wf R0 bw) = L at hL ⊢
    subst hL
    simp [bnd, G.ret, rd, opt, eS, seqI, seqL, biop, bInt, bLen, bList, bAbs, binop, big, asg, asgs, fits, line, bIsi, isTy, bTuple, item_l0, soft_fr, fr1, hn]
  have h2 : evE pk.pg (callD pk.pg (d + 3)) (.cmp .eq (.var 4) (.k (.str [41]))) (eD tk lw i t (wf R0 bw)) s = .ok (.bl (decide (t = [41]))) s := by
    have : (t == [41]) = decide (t = [41]) := by
      by_cases h : t = [41] <;> simp [bnd, G.ret, rd, opt, eS, seqI, seqL, biop, bInt, bLen, bList, bAbs, binop, big, asg, asgs, fits, line, bIsi, isTy, bTuple, h]
    simp [bnd, G.ret, rd, opt, eS, seqI, seqL, biop, bInt, bLen, bList, bAbs, binop, big, asg, asgs, fits, line, bIsi, isTy, bTuple, eq_str, this]
  have h3 : evE pk.pg (callD pk.pg (d + 3)) (.cmp .ne (.ix (.ix (.var 2) (.neg (.k (.int 1)))) (.k (.int 0))) (.k (.str [40]))) (eD tk lw i t (wf R0 bw)) s = .ok (.bl (!decide (topT (wf R0 bw) = [40]))) s := by
    rw [hR]
    have hL := lnL_cons p R'
    have : (!(p.1 == [40])) = !decide (p.1 = [40]) := by
      by_cases h : p.1 = [40] <;> simp [bnd, G.ret, rd, opt, eS, seqI, seqL, biop, bInt, bLen, bList, bAbs, binop, big, asg, asgs, fits, line, bIsi, isTy, bTuple, h]
    show _ = G.R.ok (W.bl (!decide (p.1 = [40]))) s
    rw [← this]
    unfold eD lnW
    generalize lnL (p :: R') = L at hL ⊢
    subst hL
    simp [bnd, G.ret, rd, opt, eS, seqI, seqL, biop, bInt, bLen, bList, bAbs, binop, big, asg, asgs, fits, line, bIsi, isTy, bTuple, last_t, soft_fr, fr0, ne_str]
  have := or_ev h1 (and_ev h2 h3)
  unfold badD
  rw [wf_bot]
  exact this
/-- one token more -/
theorem db_step (ht : TkF t) (hb : badD (wf R0 bw) t = false) (hl : (wf R0 bw).length ≤ 400000) (hw : ∀ p ∈ wf R0 bw, p.2.length ≤ 900000) :
    dS d (pw (i, t)) [some tk, some lw, some (lnW (wf R0 bw)), x3, x4] s = .ok .nx (eD tk lw i t (stepR (wf R0 bw) t)) s := by
  have hc := db_cond d tk lw i t R0 bw s
  rw [hb] at hc
  obtain ⟨p, R', hR⟩ := wf_cons R0 bw
  have hop := in_strs t [[40], [39], [35, 39]] s
  have hop : cmpop .isin (.str t) (.tup [.str [40], .str [39], .str [35, 39]]) s = some (isOp t) := hop
  have hasg : ∀ R, G.asg (.cons (.v 3) (.cons (.v 4) .nil)) (.tup [.int (i : Nat), .str t]) [some tk, some lw, some (lnW R), x3, x4] = some (eD tk lw i t R) := fun R => rfl
  have hst : ∀ R' , evS pk.pg (callD pk.pg (d + 3)) (.ife (.cmp .isin (.var 4) (.tup (.cons (.k (.str [40])) (.cons (.k (.str [39])) (.cons (.k (.str [35, 39])) .nil))))) (.seq (.asg (.v 2) (.bin .add (.var 2) (.lst (.cons (.tup (.cons (.var 4) (.cons (.tup .nil) .nil))) .nil)))) .nil) (.seq (.ife (.cmp .eq (.var 4) (.k (.str [41]))) (.seq (.asg (.v 2) (.call 17 (.cons (.sl (.var 2) .no (.itr (.neg (.k (.int 1))))) (.cons (.ix (.ix (.var 2) (.neg (.k (.int 1)))) (.k (.int 1))) .nil)))) .nil) (.seq (.asg (.v 2) (.call 17 (.cons (.var 2) (.cons (.call 16 (.cons (.var 4) .nil)) .nil)))) .nil)) .nil)) (eD tk lw i t (wf R0 bw)) s = .ok .nx (eD tk lw i t R') s → dS d (pw (i, t)) [some tk, some lw, some (lnW (wf R0 bw)), x3, x4] s = .ok .nx (eD tk lw i t R') s := fun R2 h => by
    have ha := hasg (wf R0 bw)
    simp only [dS, stepH, pw, ha]
    have hif : evS pk.pg (callD pk.pg (d + 3)) (.ife (.or (.cmp .ne (.ix (.ix (.var 2) (.k (.int 0))) (.k (.int 1))) (.tup .nil)) (.and (.cmp .eq (.var 4) (.k (.str [41]))) (.cmp .ne (.ix (.ix (.var 2) (.neg (.k (.int 1)))) (.k (.int 0))) (.k (.str [40]))))) (.seq (.raiseF 1 (.var 3)) .nil) .nil) (eD tk lw i t (wf R0 bw)) s = .ok .nx (eD tk lw i t (wf R0 bw)) s := by
      rw [evS]
      simp only [eS, hc]
      rw [evS]
    simp only [xS_seq, hif, h]
    rw [evS]
  apply hst
  unfold stepR
  cases q1 : isOp t with
  | true =>
    rw [q1] at hop
    have l1 : (lnL (wf R0 bw)).length + 1 ≤ 16777216 := by rw [lnL_len]; omega
    rw [if_pos rfl]
    have e : eD tk lw i t ((t, []) :: wf R0 bw) = [some tk, some lw, some (.lst (lnL (wf R0 bw) ++ [frW (t, [])])), some (.int (i : Nat)), some (.str t)] := by
      unfold eD
      rw [lnW, lnL_cons]
    rw [e]
    simp [bnd, G.ret, rd, opt, eS, seqI, seqL, biop, bInt, bLen, bList, bAbs, binop, big, asg, asgs, fits, line, bIsi, isTy, bTuple, hop, l1]
    rfl
  | false =>
    rw [q1] at hop
    rw [if_neg (by simp [bnd, G.ret, rd, opt, eS, seqI, seqL, biop, bInt, bLen, bList, bAbs, binop, big, asg, asgs, fits, line, bIsi, isTy, bTuple])]
    by_cases q2 : t = [41]
    · subst q2
      rw [if_pos rfl]
      have htop : topT (wf R0 bw) = [40] := by
        unfold badD at hb
        simp only [Bool.or_eq_false_iff, Bool.and_eq_false_iff, decide_true, Bool.true_eq_false, false_or] at hb
        simpa [bnd, G.ret, rd, opt, eS, seqI, seqL, biop, bInt, bLen, bList, bAbs, binop, big, asg, asgs, fits, line, bIsi, isTy, bTuple] using hb.2
      obtain ⟨R1, hR0⟩ : ∃ R1, R0 = p :: R1 := by
        cases R0 with
        | nil => exfalso; revert htop; simp [bnd, G.ret, rd, opt, eS, seqI, seqL, biop, bInt, bLen, bList, bAbs, binop, big, asg, asgs, fits, line, bIsi, isTy, bTuple, topT]
        | cons q R1 =>
          have : q = p := by injection hR
          exact ⟨R1, by rw [this]⟩
      subst hR0
      have hwd := withdatum_ok (d + 2) (wf R1 bw) (.tup p.2) s (okQ_wf R1 bw) (by simp only [List.length_append, List.length_cons] at hl ⊢; omega) (fun q hq => by
        have := hw q (List.mem_cons_of_mem _ hq); omega)
      have e1 : lnL (wf (p :: R1) bw) = lnL (wf R1 bw) ++ [frW p] := lnL_cons p (wf R1 bw)
      have e2 : (wf (p :: R1) bw).tail = wf R1 bw := rfl
      have e3 : topW (wf (p :: R1) bw) = p.2 := rfl
      have hsi := slice_init (lnL (wf R1 bw)) (frW p) s
      rw [e2, e3]
      unfold eD lnW
      rw [e1]
      generalize pushR (wf R1 bw) (.tup p.2) = R3 at *
      unfold lnW at hwd
      simp [bnd, G.ret, rd, opt, eS, seqI, seqL, biop, bInt, bLen, bList, bAbs, binop, big, asg, asgs, fits, line, bIsi, isTy, bTuple, hop, hsi, last_t, soft_fr, fr1, hwd, eq_str]
    · have q2' : (t == [41]) = false := by simpa [bnd, G.ret, rd, opt, eS, seqI, seqL, biop, bInt, bLen, bList, bAbs, binop, big, asg, asgs, fits, line, bIsi, isTy, bTuple] using q2
      rw [if_neg q2]
      obtain ⟨c, r, rfl⟩ : ∃ c r, t = c :: r := by
        cases t with
        | nil => exact (ht.ne rfl).elim
        | cons c r => exact ⟨c, r, rfl⟩
      have hln := ht.ln
      have hat := atomby_ok d c r s (by simpa [bnd, G.ret, rd, opt, eS, seqI, seqL, biop, bInt, bLen, bList, bAbs, binop, big, asg, asgs, fits, line, bIsi, isTy, bTuple] using hln) (fun q => by
        subst q
        have := ht.ft
        unfold fitsT at this
        have hp : decide ((34 :: r) ∈ pToks) = false := by simp [bnd, G.ret, rd, opt, eS, seqI, seqL, biop, bInt, bLen, bList, bAbs, binop, big, asg, asgs, fits, line, bIsi, isTy, bTuple, pToks]
        rw [hp, if_pos (by rfl)] at this
        simpa [bnd, G.ret, rd, opt, eS, seqI, seqL, biop, bInt, bLen, bList, bAbs, binop, big, asg, asgs, fits, line, bIsi, isTy, bTuple] using this)
      have hwd := withdatum_ok (d + 2) (wf R0 bw) (atomB (c :: r)) s (okQ_wf R0 bw) (by omega) (fun q hq => by
        have := hw q hq; omega)
      generalize pushR (wf R0 bw) (atomB (c :: r)) = R3 at *
      generalize atomB (c :: r) = at_ at *
      generalize lnL (wf R0 bw) = L at *
      simp [bnd, G.ret, rd, opt, eS, seqI, seqL, biop, bInt, bLen, bList, bAbs, binop, big, asg, asgs, fits, line, bIsi, isTy, bTuple, hop, eq_str, q2', hat, hwd]
theorem db_bad (hb : badD (wf R0 bw) t = true) : ∃ env', dS d (pw (i, t)) [some tk, some lw, some (lnW (wf R0 bw)), x3, x4] s = .exc 1 [.int (i : Nat)] env' s := by
  have hc := db_cond d tk lw i t R0 bw s
  rw [hb] at hc
  have hr : evS pk.pg (callD pk.pg (d + 3)) (.raiseF 1 (.var 3)) (eD tk lw i t (wf R0 bw)) s = .exc 1 [.int (i : Nat)] (eD tk lw i t (wf R0 bw)) s := raise_ok (d := d + 1) (by simp [bnd, G.ret, rd, opt, eS, seqI, seqL, biop, bInt, bLen, bList, bAbs, binop, big, asg, asgs, fits, line, bIsi, isTy, bTuple])
  refine ⟨eD tk lw i t (wf R0 bw), ?_⟩
  have ha : G.asg (.cons (.v 3) (.cons (.v 4) .nil)) (.tup [.int (i : Nat), .str t]) [some tk, some lw, some (lnW (wf R0 bw)), x3, x4] = some (eD tk lw i t (wf R0 bw)) := rfl
  simp only [dS, stepH, pw, ha]
  have hif : evS pk.pg (callD pk.pg (d + 3)) (.ife (.or (.cmp .ne (.ix (.ix (.var 2) (.k (.int 0))) (.k (.int 1))) (.tup .nil)) (.and (.cmp .eq (.var 4) (.k (.str [41]))) (.cmp .ne (.ix (.ix (.var 2) (.neg (.k (.int 1)))) (.k (.int 0))) (.k (.str [40]))))) (.seq (.raiseF 1 (.var 3)) .nil) .nil) (eD tk lw i t (wf R0 bw)) s = .exc 1 [.int (i : Nat)] (eD tk lw i t (wf R0 bw)) s := by
    rw [evS]
    simp only [eS, hc, xS_seq, hr]
  simp only [xS_seq, hif]
end
theorem step_wf {R0 : List Fr} {bw : List W} {t : Tok} {m : Nat} (hb : badD (wf R0 bw) t = false) (h1 : R0.length ≤ m) (h2 : ∀ p ∈ wf R0 bw, p.2.length ≤ m) : ∃ R1 bw', stepR (wf R0 bw) t = wf R1 bw' ∧ R1.length ≤ m + 1 ∧ ∀ p ∈ wf R1 bw', p.2.length ≤ m + 1 := by
  unfold stepR
  split
  · exact ⟨(t, []) :: R0, bw, rfl, by simp only [List.length_cons]; omega, fun p hp => by
      rcases List.mem_cons.mp hp with e | e
      · rw [e]; simp [bnd, G.ret, rd, opt, eS, seqI, seqL, biop, bInt, bLen, bList, bAbs, binop, big, asg, asgs, fits, line, bIsi, isTy, bTuple]
      · have := h2 p e; omega⟩
  · split
    · rename_i q2
      subst q2
      cases R0 with
      | nil =>
        exfalso
        revert hb
        simp [bnd, G.ret, rd, opt, eS, seqI, seqL, biop, bInt, bLen, bList, bAbs, binop, big, asg, asgs, fits, line, bIsi, isTy, bTuple, badD, topT]
      | cons q R1 =>
        obtain ⟨R2, bw', e, l, k⟩ := push_wf (bw := bw) R1 (.tup (topW (wf (q :: R1) bw))) m fun p hp => h2 p (List.mem_cons_of_mem _ hp)
        exact ⟨R2, bw', e, by simp only [List.length_cons] at h1; omega, k⟩
    · obtain ⟨R2, bw', e, l, k⟩ := push_wf R0 (atomB t) m h2
      exact ⟨R2, bw', e, by omega, k⟩
theorem db_loop (d : Nat) (tk lw : W) (s : G.ST) : ∀ (l : List (Nat × Tok)) (R0 : List Fr) (bw : List W) (x3 x4 : Option W) (m : Nat), (∀ p ∈ l, TkF p.2) → R0.length ≤ m → (∀ p ∈ wf R0 bw, p.2.length ≤ m) → m + l.length ≤ 300000 →
    match runD (wf R0 bw) l with
    | .ok R' => ∃ R1 bw' x3' x4', R' = wf R1 bw' ∧ forS (dS d) (l.map pw) [some tk, some lw, some (lnW (wf R0 bw)), x3, x4] s = .ok .nx [some tk, some lw, some (lnW R'), x3', x4'] s
    | .error e => ∃ env', forS (dS d) (l.map pw) [some tk, some lw, some (lnW (wf R0 bw)), x3, x4] s = .exc 1 [.int (e : Nat)] env' s
  | [], R0, bw, x3, x4, m, _, _, _, _ => ⟨R0, bw, x3, x4, rfl, rfl⟩
  | p :: l, R0, bw, x3, x4, m, ht, h1, h2, h3 => by
    simp only [List.length_cons] at h3
    rw [List.map_cons]
    cases hb : badD (wf R0 bw) p.2 with
    | true =>
      obtain ⟨env', e⟩ := db_bad d tk lw p.1 p.2 R0 bw x3 x4 s hb
      simp only [runD, hb, if_true, forS]
      exact ⟨env', by rw [e]⟩
    | false =>
      have e := db_step d tk lw p.1 p.2 R0 bw x3 x4 s (ht p List.mem_cons_self) hb (by simp only [List.length_append, List.length_cons, List.length_nil]; omega) (fun q hq => by have := h2 q hq; omega)
      obtain ⟨R1, bw', e1, e2, e3⟩ := step_wf hb h1 h2
      rw [e1] at e
      simp only [runD, hb, Bool.false_eq_true, if_false, forS, e, e1]
      exact db_loop d tk lw s l R1 bw' _ _ (m + 1) (fun q hq => ht q (List.mem_cons_of_mem _ hq)) e2 e3 (by omega)
def dby (l : List (Nat × Tok)) (n : Nat) : Except Nat W := match runD [([], [])] l with
  | .error e => .error e
  | .ok R => match bot R with
    | [] => .error n
    | w :: _ => .ok w
theorem datumby_ok (d n : Nat) (l : List (Nat × Tok)) (s : G.ST) (ht : ∀ p ∈ l, TkF p.2) (hl : l.length ≤ 200000) : callD pk.pg (d + 4) 18 [.lst (l.map pw), .int (n : Nat)] s = match dby l n with
    | .ok w => .ok w s
    | .error e => .exc 1 [.int (e : Nat)] s := by
  have hw := db_loop d (.lst (l.map pw)) (.int (n : Nat)) s l [] [] none none 0 ht (Nat.le_refl _) (fun p hp => by
    have : p = ([], []) := by simpa [bnd, G.ret, rd, opt, eS, seqI, seqL, biop, bInt, bLen, bList, bAbs, binop, big, asg, asgs, fits, line, bIsi, isTy, bTuple] using hp
    rw [this]; simp [bnd, G.ret, rd, opt, eS, seqI, seqL, biop, bInt, bLen, bList, bAbs, binop, big, asg, asgs, fits, line, bIsi, isTy, bTuple]) (by omega)
  have hS : ∀ R, forS (dS d) (l.map pw) [some (.lst (l.map pw)), some (.int (n : Nat)), some (lnW (wf [] [])), none, none] s = R → evS pk.pg (callD pk.pg (d + 3)) (.forr (.cons (.v 3) (.cons (.v 4) .nil)) (.itr (.var 0)) (.seq (.ife (.or (.cmp .ne (.ix (.ix (.var 2) (.k (.int 0))) (.k (.int 1))) (.tup .nil)) (.and (.cmp .eq (.var 4) (.k (.str [41]))) (.cmp .ne (.ix (.ix (.var 2) (.neg (.k (.int 1)))) (.k (.int 0))) (.k (.str [40]))))) (.seq (.raiseF 1 (.var 3)) .nil) .nil) (.seq (.ife (.cmp .isin (.var 4) (.tup (.cons (.k (.str [40])) (.cons (.k (.str [39])) (.cons (.k (.str [35, 39])) .nil))))) (.seq (.asg (.v 2) (.bin .add (.var 2) (.lst (.cons (.tup (.cons (.var 4) (.cons (.tup .nil) .nil))) .nil)))) .nil) (.seq (.ife (.cmp .eq (.var 4) (.k (.str [41]))) (.seq (.asg (.v 2) (.call 17 (.cons (.sl (.var 2) .no (.itr (.neg (.k (.int 1))))) (.cons (.ix (.ix (.var 2) (.neg (.k (.int 1)))) (.k (.int 1))) .nil)))) .nil) (.seq (.asg (.v 2) (.call 17 (.cons (.var 2) (.cons (.call 16 (.cons (.var 4) .nil)) .nil)))) .nil)) .nil)) .nil))) [some (.lst (l.map pw)), some (.int (n : Nat)), some (.lst [.tup [.str [], .tup []]]), none, none] s = R := fun R h => by
    have hI : evI pk.pg (callD pk.pg (d + 3)) (.itr (.var 0)) [some (.lst (l.map pw)), some (.int (n : Nat)), some (.lst [.tup [.str [], .tup []]]), none, none] s = .ok (.row (l.map pw)) s := by simp [bnd, G.ret, rd, opt, eS, seqI, seqL, biop, bInt, bLen, bList, bAbs, binop, big, asg, asgs, fits, line, bIsi, isTy, bTuple, srcOf]
    rw [evS_for]
    simp only [eS, hI, forA]
    exact h
  rw [call_eq (df := ⟨2, 5, b_datum_by⟩) rfl rfl]
  unfold dby
  have e0 : runD [([], [])] l = runD (wf [] []) l := rfl
  rw [e0]
  cases hq : runD (wf [] []) l with
  | error k =>
    rw [hq] at hw
    obtain ⟨env', e⟩ := hw
    have e := hS _ e
    simp only [b_datum_by]
    simp [bnd, G.ret, rd, opt, eS, seqI, seqL, biop, bInt, bLen, bList, bAbs, binop, big, asg, asgs, fits, line, bIsi, isTy, bTuple, e]
  | ok R =>
    rw [hq] at hw
    obtain ⟨R1, bw, x3, x4, rfl, e⟩ := hw
    have e := hS _ e
    rw [show lnW (wf R1 bw) = .lst (frW ([], bw) :: lnL R1) from by rw [lnW, wf_first]] at e
    dsimp only
    rw [wf_bot]
    have hq2 := eq_tup0 bw s
    cases bw with
    | nil =>
      have hr : ∀ env, env[1]? = some (some (W.int (n : Nat))) → evS pk.pg (callD pk.pg (d + 3)) (.raiseF 1 (.var 1)) env s = .exc 1 [.int (n : Nat)] env s := fun env h => raise_ok (d := d + 1) (by simp [bnd, G.ret, rd, opt, eS, seqI, seqL, biop, bInt, bLen, bList, bAbs, binop, big, asg, asgs, fits, line, bIsi, isTy, bTuple, h])
      have hr := hr [some (.lst (l.map pw)), some (.int (n : Nat)), some (.lst (frW ([], []) :: lnL R1)), x3, x4] rfl
      simp only [b_datum_by]
      simp [bnd, G.ret, rd, opt, eS, seqI, seqL, biop, bInt, bLen, bList, bAbs, binop, big, asg, asgs, fits, line, bIsi, isTy, bTuple, e, item_l0, soft_fr, fr1, hq2, hr]
    | cons w ws =>
      simp only [b_datum_by]
      simp [bnd, G.ret, rd, opt, eS, seqI, seqL, biop, bInt, bLen, bList, bAbs, binop, big, asg, asgs, fits, line, bIsi, isTy, bTuple, e, item_l0, soft_fr, fr1, hq2, item_t0]
end K02

set_option Elab.async false
set_option linter.all false
set_option maxRecDepth 100000
set_option maxHeartbeats 4000000
namespace K02
open G Q1
abbrev eH (tk : W) (now q : Int) (x3 x4 : Option W) : Env := [some tk, some (.int now), some (.int q), x3, x4]
abbrev hS (d : Nat) : W → Env → G.ST → G.RS := stepH pk.pg (callD pk.pg d) (.cons (.v 3) (.cons (.v 4) .nil)) (.seq (.asg (.v 1) (.ife (.cmp .eq (.var 4) (.k (.str [40]))) (.bin .add (.var 1) (.k (.int 1))) (.ife (.cmp .eq (.var 4) (.k (.str [41]))) (.bi .max (.cons (.k (.int 0)) (.cons (.bin .sub (.var 1) (.k (.int 1))) .nil))) (.var 1)))) (.seq (.asg (.v 2) (.bin .add (.var 2) (.bi .int (.cons (.cmp .isin (.var 4) (.tup (.cons (.k (.str [39])) (.cons (.k (.str [35, 39])) .nil)))) .nil)))) (.seq (.ife (.or (.cmp .gt (.var 1) (.glob 7)) (.cmp .gt (.var 2) (.glob 7))) (.seq (.raise 0 .nil) .nil) .nil) .nil)))
theorem sh_step (d : Nat) (tk : W) (i : Nat) (t : Tok) (now q : Int) (x3 x4 : Option W) (s : G.ST) :
    hS d (pw (i, t)) (eH tk now q x3 x4) s = if 200 < now1 now t ∨ 200 < q + quo1 t then .exc 0 [] (eH tk (now1 now t) (q + quo1 t) (some (.int (i : Nat))) (some (.str t))) s else .ok .nx (eH tk (now1 now t) (q + quo1 t) (some (.int (i : Nat))) (some (.str t))) s := by
  have ha : G.asg (.cons (.v 3) (.cons (.v 4) .nil)) (.tup [.int (i : Nat), .str t]) (eH tk now q x3 x4) = some (eH tk now q (some (.int (i : Nat))) (some (.str t))) := rfl
  have hin := in_strs t [[39], [35, 39]] s
  have hin : cmpop .isin (.str t) (.tup [.str [39], .str [35, 39]]) s = some (decide (t ∈ [[39], [35, 39]])) := hin
  have hc : pk.pg.consts[7]? = some (.int 200) := rfl
  have e1 : evE pk.pg (callD pk.pg d) (.ife (.cmp .eq (.var 4) (.k (.str [40]))) (.bin .add (.var 1) (.k (.int 1))) (.ife (.cmp .eq (.var 4) (.k (.str [41]))) (.bi .max (.cons (.k (.int 0)) (.cons (.bin .sub (.var 1) (.k (.int 1))) .nil))) (.var 1))) (eH tk now q (some (.int (i : Nat))) (some (.str t))) s = .ok (.int (now1 now t)) s := by
    unfold now1
    by_cases h1 : t = [40]
    · subst h1; simp [bnd, G.ret, rd, opt, eS, seqI, seqL, biop, bInt, bLen, bList, bAbs, binop, big, asg, asgs, fits, line, bIsi, isTy, bTuple, eq_str]
    · have h1' : (t == [40]) = false := by simpa [bnd, G.ret, rd, opt, eS, seqI, seqL, biop, bInt, bLen, bList, bAbs, binop, big, asg, asgs, fits, line, bIsi, isTy, bTuple] using h1
      by_cases h2 : t = [41]
      · subst h2
        have hm : (if 1 < now then now - 1 else 0) = max 0 (now - 1) := by omega
        simp [bnd, G.ret, rd, opt, eS, seqI, seqL, biop, bInt, bLen, bList, bAbs, binop, big, asg, asgs, fits, line, bIsi, isTy, bTuple, eq_str, bTwo, hm]
      · have h2' : (t == [41]) = false := by simpa [bnd, G.ret, rd, opt, eS, seqI, seqL, biop, bInt, bLen, bList, bAbs, binop, big, asg, asgs, fits, line, bIsi, isTy, bTuple] using h2
        simp [bnd, G.ret, rd, opt, eS, seqI, seqL, biop, bInt, bLen, bList, bAbs, binop, big, asg, asgs, fits, line, bIsi, isTy, bTuple, eq_str, h1', h2', h1, h2]
  have e2 : ∀ now', evE pk.pg (callD pk.pg d) (.bin .add (.var 2) (.bi .int (.cons (.cmp .isin (.var 4) (.tup (.cons (.k (.str [39])) (.cons (.k (.str [35, 39])) .nil)))) .nil))) (eH tk now' q (some (.int (i : Nat))) (some (.str t))) s = .ok (.int (q + quo1 t)) s := fun now' => by
    unfold quo1
    by_cases h1 : t ∈ [[39], [35, 39]]
    · rw [decide_eq_true h1] at hin
      simp [bnd, G.ret, rd, opt, eS, seqI, seqL, biop, bInt, bLen, bList, bAbs, binop, big, asg, asgs, fits, line, bIsi, isTy, bTuple, hin, h1]
    · rw [decide_eq_false h1] at hin
      simp [bnd, G.ret, rd, opt, eS, seqI, seqL, biop, bInt, bLen, bList, bAbs, binop, big, asg, asgs, fits, line, bIsi, isTy, bTuple, hin, h1]
  have e3 : ∀ a b : Int, evE pk.pg (callD pk.pg d) (.or (.cmp .gt (.var 1) (.glob 7)) (.cmp .gt (.var 2) (.glob 7))) (eH tk a b (some (.int (i : Nat))) (some (.str t))) s = .ok (.bl (decide (200 < a ∨ 200 < b))) s := fun a b => by
    by_cases h1 : 200 < a
    · simp [bnd, G.ret, rd, opt, eS, seqI, seqL, biop, bInt, bLen, bList, bAbs, binop, big, asg, asgs, fits, line, bIsi, isTy, bTuple, hc, gt_int, h1]
    · simp [bnd, G.ret, rd, opt, eS, seqI, seqL, biop, bInt, bLen, bList, bAbs, binop, big, asg, asgs, fits, line, bIsi, isTy, bTuple, hc, gt_int, h1]
  simp only [hS, stepH, pw, ha]
  generalize now1 now t = a at *
  generalize q + quo1 t = b at *
  have e2 := e2 a
  have e3 := e3 a b
  have s1 : ∀ S2, evS pk.pg (callD pk.pg d) (.seq (.asg (.v 1) (.ife (.cmp .eq (.var 4) (.k (.str [40]))) (.bin .add (.var 1) (.k (.int 1))) (.ife (.cmp .eq (.var 4) (.k (.str [41]))) (.bi .max (.cons (.k (.int 0)) (.cons (.bin .sub (.var 1) (.k (.int 1))) .nil))) (.var 1)))) S2) (eH tk now q (some (.int (i : Nat))) (some (.str t))) s = evS pk.pg (callD pk.pg d) S2 (eH tk a q (some (.int (i : Nat))) (some (.str t))) s := fun S2 => by
    rw [xS_seq, xS_asg]
    simp only [eS, e1]
    rfl
  have s2 : ∀ S2, evS pk.pg (callD pk.pg d) (.seq (.asg (.v 2) (.bin .add (.var 2) (.bi .int (.cons (.cmp .isin (.var 4) (.tup (.cons (.k (.str [39])) (.cons (.k (.str [35, 39])) .nil)))) .nil)))) S2) (eH tk a q (some (.int (i : Nat))) (some (.str t))) s = evS pk.pg (callD pk.pg d) S2 (eH tk a b (some (.int (i : Nat))) (some (.str t))) s := fun S2 => by
    rw [xS_seq, xS_asg]
    simp only [eS, e2]
    rfl
  rw [s1, s2, xS_seq, evS]
  simp only [eS, e3]
  by_cases h : 200 < a ∨ 200 < b
  · rw [if_pos h, decide_eq_true h]
    simp [bnd, G.ret, rd, opt, eS, seqI, seqL, biop, bInt, bLen, bList, bAbs, binop, big, asg, asgs, fits, line, bIsi, isTy, bTuple]
  · rw [if_neg h, decide_eq_false h]
    simp [bnd, G.ret, rd, opt, eS, seqI, seqL, biop, bInt, bLen, bList, bAbs, binop, big, asg, asgs, fits, line, bIsi, isTy, bTuple]
theorem sh_loop (d : Nat) (tk : W) (s : G.ST) : ∀ (l : List (Nat × Tok)) (now q : Int) (x3 x4 : Option W),
    if shB now q (l.map (·.2)) = true then ∃ env', forS (hS d) (l.map pw) (eH tk now q x3 x4) s = .ok .nx env' s else ∃ env', forS (hS d) (l.map pw) (eH tk now q x3 x4) s = .exc 0 [] env' s
  | [], now, q, x3, x4 => by
    rw [if_pos (by rfl)]
    exact ⟨_, rfl⟩
  | p :: l, now, q, x3, x4 => by
    have h := sh_step d tk p.1 p.2 now q x3 x4 s
    simp only [List.map_cons, shB]
    by_cases q1 : 200 < now1 now p.2 ∨ 200 < q + quo1 p.2
    · rw [if_pos q1] at h ⊢
      rw [if_neg (by simp [bnd, G.ret, rd, opt, eS, seqI, seqL, biop, bInt, bLen, bList, bAbs, binop, big, asg, asgs, fits, line, bIsi, isTy, bTuple])]
      exact ⟨_, by simp only [forS, h]; rfl⟩
    · rw [if_neg q1] at h ⊢
      have ih := sh_loop d tk s l (now1 now p.2) (q + quo1 p.2) (some (.int (p.1 : Nat))) (some (.str p.2))
      simp only [forS, h]
      exact ih
theorem shallow_ok (d : Nat) (l : List (Nat × Tok)) (s : G.ST) : callD pk.pg (d + 1) 19 [.lst (l.map pw)] s = if shB 0 0 (l.map (·.2)) = true then .ok .non s else .exc 0 [] s := by
  have hw := sh_loop d (.lst (l.map pw)) s l 0 0 none none
  have hS : ∀ R, forS (hS d) (l.map pw) [some (.lst (l.map pw)), some (.int 0), some (.int 0), none, none] s = R → evS pk.pg (callD pk.pg d) (.forr (.cons (.v 3) (.cons (.v 4) .nil)) (.itr (.var 0)) (.seq (.asg (.v 1) (.ife (.cmp .eq (.var 4) (.k (.str [40]))) (.bin .add (.var 1) (.k (.int 1))) (.ife (.cmp .eq (.var 4) (.k (.str [41]))) (.bi .max (.cons (.k (.int 0)) (.cons (.bin .sub (.var 1) (.k (.int 1))) .nil))) (.var 1)))) (.seq (.asg (.v 2) (.bin .add (.var 2) (.bi .int (.cons (.cmp .isin (.var 4) (.tup (.cons (.k (.str [39])) (.cons (.k (.str [35, 39])) .nil)))) .nil)))) (.seq (.ife (.or (.cmp .gt (.var 1) (.glob 7)) (.cmp .gt (.var 2) (.glob 7))) (.seq (.raise 0 .nil) .nil) .nil) .nil)))) [some (.lst (l.map pw)), some (.int 0), some (.int 0), none, none] s = R := fun R h => by
    have hI : evI pk.pg (callD pk.pg d) (.itr (.var 0)) [some (.lst (l.map pw)), some (.int 0), some (.int 0), none, none] s = .ok (.row (l.map pw)) s := by simp [bnd, G.ret, rd, opt, eS, seqI, seqL, biop, bInt, bLen, bList, bAbs, binop, big, asg, asgs, fits, line, bIsi, isTy, bTuple, srcOf]
    rw [evS_for]
    simp only [eS, hI, forA]
    exact h
  rw [call_eq (df := ⟨1, 5, b_need_shallow⟩) rfl rfl]
  by_cases q : shB 0 0 (l.map (·.2)) = true
  · rw [if_pos q] at hw ⊢
    obtain ⟨env', e⟩ := hw
    have e := hS _ e
    simp only [b_need_shallow]
    simp [bnd, G.ret, rd, opt, eS, seqI, seqL, biop, bInt, bLen, bList, bAbs, binop, big, asg, asgs, fits, line, bIsi, isTy, bTuple, e]
  · rw [if_neg q] at hw ⊢
    obtain ⟨env', e⟩ := hw
    have e := hS _ e
    simp only [b_need_shallow]
    simp [bnd, G.ret, rd, opt, eS, seqI, seqL, biop, bInt, bLen, bList, bAbs, binop, big, asg, asgs, fits, line, bIsi, isTy, bTuple, e]
theorem string_ok (d : Nat) (T : List Nat) (s : G.ST) : callD pk.pg (d + 1) 20 [.str T] s = .ok .non s := by
  rw [call_eq (df := ⟨1, 1, b_need_string⟩) rfl rfl]
  simp [bnd, G.ret, rd, opt, eS, seqI, seqL, biop, bInt, bLen, bList, bAbs, binop, big, asg, asgs, fits, line, bIsi, isTy, bTuple, b_need_string]
theorem tokensof_ok (d : Nat) (T : List Nat) (s : G.ST) (hl : T.length ≤ 900000) : callD pk.pg (d + 6) 22 [.str T] s = match toks T with
    | .ok l => .ok (.lst (l.map pw)) s
    | .error e => .exc 1 [.int (e : Nat)] s := by
  have h1 := string_ok (d + 4) T s
  have h2 := tokensin_ok d T s hl
  rw [call_eq (df := ⟨1, 1, b_tokens_of⟩) rfl rfl]
  cases q : toks T with
  | ok l =>
    rw [q] at h2
    simp [bnd, G.ret, rd, opt, eS, seqI, seqL, biop, bInt, bLen, bList, bAbs, binop, big, asg, asgs, fits, line, bIsi, isTy, bTuple, b_tokens_of, h1, h2]
  | error e =>
    rw [q] at h2
    simp [bnd, G.ret, rd, opt, eS, seqI, seqL, biop, bInt, bLen, bList, bAbs, binop, big, asg, asgs, fits, line, bIsi, isTy, bTuple, b_tokens_of, h1, h2]
theorem read_ok (d : Nat) (T : List Nat) (l : List (Nat × Tok)) (w : W) (s : G.ST) (hl : T.length ≤ 200000) (ht : toks T = .ok l) (hs : shB 0 0 (l.map (·.2)) = true) (hd : dby l T.length = .ok w) (hw : okD w = true) (hp : plW w = true) (hz : szW w ≤ 500000) :
    callD pk.pg (d + 6) 23 [.str T] s = .ok w s := by
  have h1 := string_ok (d + 4) T s
  have h2 := tokensin_ok d T s (by omega)
  have hk := lx_toks _ _ _ _ (by omega) ht
  have h3 := shallow_ok (d + 4) l s
  have h4 := datumby_ok (d + 1) T.length l s hk.2 (by omega)
  have h5 := measured_ok d w s hp hz
  rw [ht] at h2
  rw [if_pos hs] at h3
  rw [hd] at h4
  rw [if_pos hw] at h5
  have hn : ∀ a b : Int, cmpop .is (.tup [.int a, .int b]) .non s = some false := fun a b => rfl
  have hl2 : T.length ≤ 16777216 := by omega
  rw [call_eq (df := ⟨1, 3, b_read_datum⟩) rfl rfl]
  simp [bnd, G.ret, rd, opt, eS, seqI, seqL, biop, bInt, bLen, bList, bAbs, binop, big, asg, asgs, fits, line, bIsi, isTy, bTuple, b_read_datum, h1, h2, h3, h4, h5, hn, hl2]
theorem datumtext_ok (d : Nat) (w : W) (s : G.ST) (hw : okD w = true) (hp : plW w = true) (hd : dpW w ≤ 10) : callD pk.pg (d + 12) 21 [w] s = .ok (.str (wr w)) s := by
  simp only [okD, Bool.and_eq_true, decide_eq_true_eq] at hw
  have h1 := need_ok (d + 5) w s hp (by omega)
  rw [if_pos (by simp only [okD, Bool.and_eq_true, decide_eq_true_eq]; exact hw)] at h1
  have h2 := written_ok d s 10 w hd hw.1 (by omega)
  rw [call_eq (df := ⟨1, 1, b_datum_text⟩) rfl rfl]
  simp [bnd, G.ret, rd, opt, eS, seqI, seqL, biop, bInt, bLen, bList, bAbs, binop, big, asg, asgs, fits, line, bIsi, isTy, bTuple, b_datum_text, h1, h2]
end K02

set_option Elab.async false
set_option linter.all false
set_option maxRecDepth 100000
set_option maxHeartbeats 4000000
namespace K02
open G Q1
theorem read_lex (d : Nat) (T : List Nat) (e : Nat) (s : G.ST) (hl : T.length ≤ 900000) (ht : toks T = .error e) : callD pk.pg (d + 6) 23 [.str T] s = .exc 1 [.int (e : Nat)] s := by
  have h1 := string_ok (d + 4) T s
  have h2 := tokensin_ok d T s hl
  rw [ht] at h2
  rw [call_eq (df := ⟨1, 3, b_read_datum⟩) rfl rfl]
  simp [bnd, G.ret, rd, opt, eS, seqI, seqL, biop, bInt, bLen, bList, bAbs, binop, big, asg, asgs, fits, line, bIsi, isTy, bTuple, b_read_datum, h1, h2]
theorem read_line (d : Nat) (T : List Nat) (l : List (Nat × Tok)) (e : Nat) (s : G.ST) (hl : T.length ≤ 200000) (ht : toks T = .ok l) (hs : shB 0 0 (l.map (·.2)) = true) (hd : dby l T.length = .error e) : callD pk.pg (d + 6) 23 [.str T] s = .exc 1 [.int (e : Nat)] s := by
  have h1 := string_ok (d + 4) T s
  have h2 := tokensin_ok d T s (by omega)
  have hk := lx_toks _ _ _ _ (by omega) ht
  have h3 := shallow_ok (d + 4) l s
  have h4 := datumby_ok (d + 1) T.length l s hk.2 (by omega)
  rw [ht] at h2
  rw [if_pos hs] at h3
  rw [hd] at h4
  have hl2 : T.length ≤ 16777216 := by omega
  rw [call_eq (df := ⟨1, 3, b_read_datum⟩) rfl rfl]
  simp [bnd, G.ret, rd, opt, eS, seqI, seqL, biop, bInt, bLen, bList, bAbs, binop, big, asg, asgs, fits, line, bIsi, isTy, bTuple, b_read_datum, h1, h2, h3, h4, hl2]
theorem read_deep (d : Nat) (T : List Nat) (l : List (Nat × Tok)) (s : G.ST) (hl : T.length ≤ 200000) (ht : toks T = .ok l) (hs : shB 0 0 (l.map (·.2)) = false) : callD pk.pg (d + 6) 23 [.str T] s = .exc 0 [] s := by
  have h1 := string_ok (d + 4) T s
  have h2 := tokensin_ok d T s (by omega)
  have h3 := shallow_ok (d + 4) l s
  rw [ht] at h2
  rw [hs] at h3
  simp only [Bool.false_eq_true, if_false] at h3
  rw [call_eq (df := ⟨1, 3, b_read_datum⟩) rfl rfl]
  simp [bnd, G.ret, rd, opt, eS, seqI, seqL, biop, bInt, bLen, bList, bAbs, binop, big, asg, asgs, fits, line, bIsi, isTy, bTuple, b_read_datum, h1, h2, h3]
theorem read_odd (d : Nat) (T : List Nat) (l : List (Nat × Tok)) (w : W) (s : G.ST) (hl : T.length ≤ 200000) (ht : toks T = .ok l) (hs : shB 0 0 (l.map (·.2)) = true) (hd : dby l T.length = .ok w) (hw : okD w = false) (hp : plW w = true) (hz : szW w ≤ 500000) :
    callD pk.pg (d + 6) 23 [.str T] s = .exc 0 [] s := by
  have h1 := string_ok (d + 4) T s
  have h2 := tokensin_ok d T s (by omega)
  have hk := lx_toks _ _ _ _ (by omega) ht
  have h3 := shallow_ok (d + 4) l s
  have h4 := datumby_ok (d + 1) T.length l s hk.2 (by omega)
  have h5 := measured_ok d w s hp hz
  rw [ht] at h2
  rw [if_pos hs] at h3
  rw [hd] at h4
  rw [hw] at h5
  simp only [Bool.false_eq_true, if_false] at h5
  have hn : cmpop .is .non .non s = some true := rfl
  have hl2 : T.length ≤ 16777216 := by omega
  rw [call_eq (df := ⟨1, 3, b_read_datum⟩) rfl rfl]
  simp [bnd, G.ret, rd, opt, eS, seqI, seqL, biop, bInt, bLen, bList, bAbs, binop, big, asg, asgs, fits, line, bIsi, isTy, bTuple, b_read_datum, h1, h2, h3, h4, h5, hn, hl2]
/-! what a lambda's teller tells -/
def txtS : List Nat := [116, 101, 120, 116, 32]
def datS : List Nat := [100, 97, 116, 117, 109]
theorem told0 : (pk.pg.told[0]?.bind fun r => r[0]?).join = some (.txt datS) := rfl
theorem told1 : (pk.pg.told[0]?.bind fun r => r[1]?).join = some (.pre txtS) := rfl
theorem clo_open {D : Nat} {l : E} {env : Env} {s : G.ST} : evE pk.pg (callD pk.pg (D + 2)) (.clo 0 l) env s = tellM pk.pg 0 (evE pk.pg (callD pk.pg D) l env) s := by
  rw [xE_clo, callD_more]
  unfold tellM
  have e : G.bnd (callD pk.pg (D + 2) pk.pg.defs.length []) (fun _ => evE pk.pg (callD pk.pg D) l env) s = evE pk.pg (callD pk.pg D) l env s := by
    unfold G.bnd; rw [gate_ok]
  rw [e]
theorem clo_datum {D : Nat} {l : E} {env : Env} {s : G.ST} (h : evE pk.pg (callD pk.pg D) l env s = .exc 0 [] s) : evE pk.pg (callD pk.pg (D + 2)) (.clo 0 l) env s = .ok (.str datS) s := by
  rw [clo_open]
  unfold tellM
  rw [h]
  simp only [told0]
  rfl
theorem tell_pre (p : List Nat) (i : Int) (h1 : -18446744073709551616 < i) (h2 : i < 18446744073709551616) (h3 : p.length ≤ 1000) : tellT (.pre p) [.int i] = some (.str (p ++ intStr i)) := by
  simp [bnd, G.ret, rd, opt, eS, seqI, seqL, biop, bInt, bLen, bList, bAbs, binop, big, asg, asgs, fits, line, bIsi, isTy, bTuple, tellT, h1, h2, h3]
theorem tell_text {P : Pg} {n : Nat} {m : M W} {p : List Nat} {i : Int} {s s' : G.ST} (ht : (P.told[n]?.bind fun r => r[1]?).join = some (.pre p)) (h : m s = .exc 1 [.int i] s') (h1 : -18446744073709551616 < i) (h2 : i < 18446744073709551616) (h3 : p.length ≤ 1000) : tellM P n m s = .ok (.str (p ++ intStr i)) s' := by
  unfold tellM
  rw [h]
  simp only [ht, tell_pre p i h1 h2 h3]
theorem clo_text {D : Nat} {i : Int} {l : E} {env : Env} {s : G.ST} (h : evE pk.pg (callD pk.pg D) l env s = .exc 1 [.int i] s) (h1 : -18446744073709551616 < i) (h2 : i < 18446744073709551616) : evE pk.pg (callD pk.pg (D + 2)) (.clo 0 l) env s = .ok (.str (txtS ++ intStr i)) s := by
  rw [clo_open]
  exact tell_text told1 h h1 h2 (by decide)
theorem clo_good {D : Nat} {l : E} {env : Env} {s : G.ST} {w : W} (h : evE pk.pg (callD pk.pg D) l env s = .ok w s) : evE pk.pg (callD pk.pg (D + 2)) (.clo 0 l) env s = .ok (.str []) s := by
  rw [clo_open]
  unfold tellM
  rw [h]
end K02

set_option Elab.async false
set_option linter.all false
set_option maxRecDepth 100000
set_option maxHeartbeats 4000000
namespace K02
open G Q1
/-- a text that is refused at a place -/
def Bad (X : List Nat) (e : Nat) : Prop := X.length ≤ 200000 ∧ (toks X = .error e ∨ ∃ l, toks X = .ok l ∧ shB 0 0 (l.map (·.2)) = true ∧ dby l X.length = .error e)
theorem Bad.read {X : List Nat} {e : Nat} (h : Bad X e) (d : Nat) (s : G.ST) : callD pk.pg (d + 6) 23 [.str X] s = .exc 1 [.int (e : Nat)] s := by
  obtain ⟨h1, h2 | ⟨l, h2, h3, h4⟩⟩ := h
  · exact read_lex d X e s (by omega) h2
  · exact read_line d X l e s h1 h2 h3 h4
theorem tk_tup {x : W ⊕ List W} {ts : List Tok} (h : TkX x ts) {ws : List W} (hx : x = .inl (.tup ws)) (hl : ws.length = 3) : ∃ ts', ts = [40] :: (ts' ++ [[41]]) ∧ TkX (.inr ws) ts' := by
  cases h with
  | @atom w t a =>
    exfalso
    have hw : w = .tup ws := by injection hx
    have := a.at_
    rw [hw] at this
    unfold atomB at this
    split at this
    · cases this
    · split at this
      · injection this with this
        rw [← this] at hl
        simp at hl
      · split at this <;> cases this
  | @quo w ts b _ =>
    exfalso
    injection hx with hx
    injection hx with hx
    rw [← hx] at hl
    simp at hl
  | @tup ws' ts h =>
    injection hx with hx
    injection hx with hx
    subst hx
    exact ⟨ts, rfl, h⟩
  | nil => cases hx
  | cons _ _ => cases hx
theorem cnt_take : ∀ (ts : List Tok) (k : Nat), cnt (ts.take k) ≤ cnt ts
  | [], k => by simp
  | t :: r, 0 => Nat.zero_le _
  | t :: r, k + 1 => by
    have := cnt_take r k
    simp only [List.take_succ_cons, cnt]
    omega
theorem runD_app : ∀ (l m : List (Nat × Tok)) (R S : List Fr), runD R l = .ok S → runD R (l ++ m) = runD S m
  | [], m, R, S, h => by cases h; rfl
  | p :: l, m, R, S, h => by
    simp only [List.cons_append, runD] at h ⊢
    split at h
    · cases h
    · rename_i hb
      rw [if_neg hb]
      exact runD_app l m _ S h
theorem more_tg : ∀ m ∈ [[97], [40], [41], [39], [35, 39], [34, 120, 34], [53], [110, 105, 108]], TG m ∧ m.length ≤ 3 ∧ opn m ≤ 1 := by
  intro m hm
  simp only [List.mem_cons, List.not_mem_nil, or_false] at hm
  rcases hm with rfl | rfl | rfl | rfl | rfl | rfl | rfl | rfl
  · exact ⟨.a (by decide), by decide, by decide⟩
  · exact ⟨.p (by decide), by decide, by decide⟩
  · exact ⟨.p (by decide), by decide, by decide⟩
  · exact ⟨.p (by decide), by decide, by decide⟩
  · exact ⟨.p (by decide), by decide, by decide⟩
  · exact ⟨.q (l := [120]) (by decide), by decide, by decide⟩
  · exact ⟨.a (by decide), by decide, by decide⟩
  · exact ⟨.a (by decide), by decide, by decide⟩
def bads : List (List Nat) := [[65], [35], [97, 46, 98], [35, 97], [123], [57, 95]]
theorem bads_ok : ∀ t ∈ bads, t ≠ [] ∧ (∀ c ∈ t, isStop c = false) ∧ fitsT t = false ∧ t.length ≤ 3 := by decide
theorem toks_ok {l : Its} (h : Ch false l) : toks (txt l) = .ok (due 0 l) := by
  have := lx_ok (tail := []) (fun _ h => nomatch h) l (txt l).length 0 h (by simp)
  simpa [toks] using this
theorem toks_okT {l : Its} {g : List Nat} (h : Ch false l) (hg : Bl g) : toks (txt l ++ g) = .ok (due 0 l) := lx_ok hg l _ 0 h (Nat.le_refl _)
section
variable {ws : List W} {L L1 L2 : Its} {g t : List Nat} {ts' : List Tok}
/-- what is known of the text, cut at a token -/
structure Cut (ws : List W) (L L1 L2 : Its) (g t : List Nat) (ts' : List Tok) : Prop where
  e : L = L1 ++ (g, t) :: L2
  n : L1 ≠ []
  tx : txt L = wr (.tup ws)
  tk : TkX (.inr ws) ts'
  sn : L.map (·.2) = [40] :: (ts' ++ [[41]])
  ch : Ch false L
  sz : szW (.tup ws) ≤ 150
  ln : (txt L).length ≤ 150000
theorem Cut.all (c : Cut ws L L1 L2 g t ts') : Tk (.tup ws) (L.map (·.2)) := by rw [c.sn]; exact .tup c.tk
theorem Cut.cnt (c : Cut ws L L1 L2 g t ts') : cnt (L.map (·.2)) ≤ 150 := by
  have := (cnt_tk c.all).1
  simp only at this
  have := c.sz
  omega
theorem Cut.c1 (c : Cut ws L L1 L2 g t ts') : Ch false L1 := by
  have := c.ch
  rw [c.e] at this
  exact this.pre
theorem Cut.mid (c : Cut ws L L1 L2 g t ts') : Bl g ∧ TG t ∧ (prevA false L1 = true → g = [] → stH t = true) := by
  have := c.ch
  rw [c.e] at this
  exact this.mid
theorem Cut.tx2 (c : Cut ws L L1 L2 g t ts') : txt L = txt L1 ++ g ++ (t ++ txt L2) := by
  rw [c.e, txt_app]
  simp [txt]
theorem Cut.s1 (c : Cut ws L L1 L2 g t ts') : L1.map (·.2) = (L.map (·.2)).take L1.length := by
  rw [c.e, List.map_append, List.take_append_of_le_length (by simp), List.take_of_length_le (by simp)]
theorem Cut.part (c : Cut ws L L1 L2 g t ts') : ∃ S2, runD [([], [])] (due 0 L1) = .ok S2 ∧ okR S2 := by
  refine run_part c.tk (k := L1.length) ?_ ?_ ?_
  · have := c.n
    cases L1 with
    | nil => exact (this rfl).elim
    | cons x r => simp
  · have h1 := congrArg List.length c.sn
    rw [c.e] at h1
    simp only [List.length_map, List.length_append, List.length_cons, List.length_nil] at h1
    omega
  · rw [due_snd, c.s1, c.sn]
theorem Cut.cn1 (c : Cut ws L L1 L2 g t ts') : Q1.cnt (L1.map (·.2)) ≤ 150 := by
  have h1 := cnt_take (L.map (·.2)) L1.length
  rw [← c.s1] at h1
  have := c.cnt
  omega
theorem Cut.cA (c : Cut ws L L1 L2 g t ts') {gap more : List Nat} (hg : Bl gap) (hgl : gap.length ≤ 2) (hm : more ∈ [[97], [40], [41], [39], [35, 39], [34, 120, 34], [53], [110, 105, 108]]) : Bad (((txt L ++ gap) ++ [32]) ++ more) ((txt L ++ gap).length + 1) := by
  obtain ⟨m1, m2, m3⟩ := more_tg more hm
  have hb : Bl (gap ++ [32]) := fun x hx => by
    rcases List.mem_append.mp hx with h | h
    · exact hg x h
    · rw [List.mem_singleton.mp h]; decide
  have hc : Ch false (L ++ [(gap ++ [32], more)]) := Ch_snoc hb m1 L false c.ch fun _ q => by simp at q
  have e1 : ((txt L ++ gap) ++ [32]) ++ more = txt (L ++ [(gap ++ [32], more)]) := by
    rw [txt_app]; simp [txt]
  have e2 : due 0 (L ++ [(gap ++ [32], more)]) = due 0 L ++ [((txt L ++ gap).length + 1, more)] := by
    rw [due_app]
    simp only [due, List.length_append, List.length_singleton]
    congr 3
    omega
  refine ⟨by have := c.ln; simp only [List.length_append, List.length_singleton]; omega, .inr ⟨_, by rw [e1]; exact toks_ok hc, ?_, ?_⟩⟩
  · rw [due_snd, List.map_append, List.map_cons, List.map_nil]
    have : Q1.cnt (L.map (·.2) ++ [more]) ≤ 151 := by
      rw [cnt_app]
      have := c.cnt
      simp only [Q1.cnt]
      omega
    show shB 0 0 (L.map (·.2) ++ [more]) = true
    exact shB_cnt _ 0 0 (by omega) (by omega) (by omega) (by omega)
  · rw [e2]
    unfold dby
    have := run_tk c.all [([], [])] (due 0 L) [((txt L ++ gap).length + 1, more)] ⟨by simp, rfl⟩ (due_snd L 0)
    rw [this]
    have hbd : badD (pushR [([], [])] (.tup ws)) more = true := by simp [pushR, badD, bot]
    simp only [runD, hbd, if_true]
theorem Cut.first (c : Cut ws L L1 L2 g t ts') : ∃ Lr, L = ([], [40]) :: Lr := by
  have h1 := c.sn
  have h2 := c.tx
  cases hL : L with
  | nil => rw [hL] at h1; simp at h1
  | cons p Lr =>
    obtain ⟨g0, t0⟩ := p
    rw [hL] at h1 h2
    simp only [List.map_cons, List.cons.injEq] at h1
    obtain ⟨rfl, _⟩ := h1
    cases g0 with
    | nil => exact ⟨Lr, rfl⟩
    | cons x g0 =>
      exfalso
      have hch := c.ch
      rw [hL] at hch
      have hx := hch.1 x List.mem_cons_self
      have hw : ∃ z, wr (.tup ws) = 40 :: z ∨ wr (.tup ws) = 39 :: z ∨ wr (.tup ws) = 35 :: z ∨ wr (.tup ws) = 110 :: z := by
        simp only [wr]
        cases q : quoOf ws with
        | some b => cases b with
          | true => exact ⟨_, .inr (.inl rfl)⟩
          | false => exact ⟨_, .inr (.inr (.inl rfl))⟩
        | none =>
          dsimp only
          split
          · exact ⟨_, .inr (.inr (.inr rfl))⟩
          · exact ⟨_, .inl rfl⟩
      simp only [txt, List.cons_append] at h2
      obtain ⟨z, hz⟩ := hw
      rw [← h2] at hz
      rcases hz with hz | hz | hz | hz <;> (injection hz with hz _; subst hz; revert hx; decide)
theorem Cut.cB (c : Cut ws L L1 L2 g t ts') {gap : List Nat} (hg : Bl gap) (hgl : gap.length ≤ 2) : Bad (([41] ++ gap) ++ txt L) 0 := by
  obtain ⟨Lr, hL⟩ := c.first
  have hch := c.ch
  have hcn := c.cnt
  have hln := c.ln
  rw [hL] at hch hcn hln ⊢
  have hc : Ch false (([], [41]) :: (gap, [40]) :: Lr) := ⟨bl_nil, .p (by decide), (fun q => by cases q), hg, .p (by decide), (fun _ _ => by decide), hch.2.2.2⟩
  have e1 : ([41] ++ gap) ++ txt (([], [40]) :: Lr) = txt (([], [41]) :: (gap, [40]) :: Lr) := by simp [txt]
  refine ⟨by simp only [List.length_append, List.length_singleton]; omega, .inr ⟨_, by rw [e1]; exact toks_ok hc, ?_, ?_⟩⟩
  · rw [due_snd]
    have : Q1.cnt ((([], [41]) :: (gap, [40]) :: Lr : Its).map (·.2)) ≤ 150 := by
      simp only [List.map_cons, Q1.cnt] at hcn ⊢
      have : opn [41] = 0 := by decide
      omega
    exact shB_cnt _ 0 0 (by omega) (by omega) (by omega) (by omega)
  · unfold dby
    have hbd : badD [([], [])] [41] = true := by decide
    simp only [due, runD, hbd, if_true]
    rfl
theorem Cut.cC (c : Cut ws L L1 L2 g t ts') : Bad (txt L1 ++ g) ((txt L1 ++ g).length) := by
  obtain ⟨S2, r1, r2⟩ := c.part
  have hln := c.ln
  rw [c.tx2, List.length_append] at hln
  have := c.cn1
  refine ⟨by omega, .inr ⟨_, toks_okT c.c1 c.mid.1, ?_, ?_⟩⟩
  · rw [due_snd]
    exact shB_cnt _ 0 0 (by omega) (by omega) (by omega) (by omega)
  · unfold dby
    rw [r1]
    simp only [r2.2]
theorem Cut.cD (c : Cut ws L L1 L2 g t ts') : Bad ((txt L1 ++ g) ++ [39, 32, 41]) ((txt L1 ++ g).length + 2) := by
  obtain ⟨S2, r1, r2⟩ := c.part
  have hln := c.ln
  rw [c.tx2, List.length_append] at hln
  have hcn := c.cn1
  have hc1 : Ch false (L1 ++ [(g, [39])]) := Ch_snoc c.mid.1 (.p (by decide)) L1 false c.c1 fun _ _ => by decide
  have hc : Ch false ((L1 ++ [(g, [39])]) ++ [([32], [41])]) := Ch_snoc bl_sp (.p (by decide)) _ false hc1 fun _ _ => by decide
  have e1 : (txt L1 ++ g) ++ [39, 32, 41] = txt ((L1 ++ [(g, [39])]) ++ [([32], [41])]) := by
    rw [txt_app, txt_app]; simp [txt]
  have e2 : due 0 ((L1 ++ [(g, [39])]) ++ [([32], [41])]) = due 0 L1 ++ [((txt L1 ++ g).length, [39]), ((txt L1 ++ g).length + 2, [41])] := by
    rw [due_app, due_app, txt_app]
    simp only [due, txt, List.length_append, List.length_singleton, List.append_assoc, List.append_nil, List.cons_append, List.nil_append]
    congr 4 <;> simp <;> omega
  refine ⟨by simp only [List.length_append, List.length_cons, List.length_nil] at hln ⊢; omega, .inr ⟨_, by rw [e1]; exact toks_ok hc, ?_, ?_⟩⟩
  · rw [due_snd, List.map_append, List.map_append, List.map_cons, List.map_nil, List.map_cons, List.map_nil]
    have : Q1.cnt (L1.map (·.2) ++ [[39]] ++ [[41]]) ≤ 151 := by
      rw [cnt_app, cnt_app]
      have h1 : Q1.cnt [[39]] = 1 := by decide
      have h2 : Q1.cnt [[41]] = 0 := by decide
      omega
    show shB 0 0 (L1.map (·.2) ++ [[39]] ++ [[41]]) = true
    exact shB_cnt _ 0 0 (by omega) (by omega) (by omega) (by omega)
  · rw [e2]
    unfold dby
    rw [runD_app _ _ _ _ r1, runD_step r2 (fun q => by cases q)]
    have hst : stepR S2 [39] = ([39], []) :: S2 := rfl
    have hbd : badD (([39], []) :: S2) [41] = true := by
      unfold badD
      simp [topT]
    simp only [hst, runD, hbd, if_true]
theorem Cut.err (c : Cut ws L L1 L2 g t ts') {Y : List Nat} {e : Nat} (hl : ((txt L1 ++ g) ++ 32 :: Y).length ≤ 200000) (h : ∀ f, Y.length ≤ f → lx f ((txt L1 ++ g).length + 1) Y = .error e) : Bad ((txt L1 ++ g) ++ 32 :: Y) e := by
  refine ⟨hl, .inl ?_⟩
  have hb : Bl (g ++ [32]) := fun x hx => by
    rcases List.mem_append.mp hx with h | h
    · exact c.mid.1 x h
    · rw [List.mem_singleton.mp h]; decide
  have e1 : (txt L1 ++ g) ++ 32 :: Y = txt L1 ++ ((g ++ [32]) ++ Y) := by simp
  unfold toks
  rw [e1]
  refine lx_err L1 _ 0 c.c1 (fun _ => bl_stH hb (by simp)) (Nat.le_refl _) fun f' hf' => ?_
  refine lx_blanks _ f' _ hb hf' fun f2 hf2 => ?_
  have := h f2 hf2
  have e3 : 0 + (txt L1).length + (g ++ [32]).length = (txt L1 ++ g).length + 1 := by simp only [List.length_append, List.length_singleton]; omega
  rw [e3]
  exact this
theorem Cut.cE (c : Cut ws L L1 L2 g t ts') {bad : List Nat} (hm : bad ∈ bads) : Bad (((((txt L1 ++ g) ++ [32]) ++ bad) ++ [32]) ++ (t ++ txt L2)) ((txt L1 ++ g).length + 1) := by
  obtain ⟨b1, b2, b3, b4⟩ := bads_ok bad hm
  have hln := c.ln
  rw [c.tx2] at hln
  have e1 : ((((txt L1 ++ g) ++ [32]) ++ bad) ++ [32]) ++ (t ++ txt L2) = (txt L1 ++ g) ++ 32 :: (bad ++ 32 :: (t ++ txt L2)) := by simp
  rw [e1]
  exact c.err (by simp only [List.length_append, List.length_cons] at hln ⊢; omega) fun f hf => lx_bad b1 b2 b3 f _ hf
theorem Cut.cF (c : Cut ws L L1 L2 g t ts') : Bad (((txt L1 ++ g) ++ [32, 34, 97, 92, 98, 34, 32]) ++ (t ++ txt L2)) ((txt L1 ++ g).length + 1) := by
  have hln := c.ln
  rw [c.tx2] at hln
  have e1 : ((txt L1 ++ g) ++ [32, 34, 97, 92, 98, 34, 32]) ++ (t ++ txt L2) = (txt L1 ++ g) ++ 32 :: ([34, 97, 92, 98, 34] ++ 32 :: (t ++ txt L2)) := by simp
  rw [e1]
  exact c.err (by simp only [List.length_append, List.length_cons, List.length_nil] at hln ⊢; omega) fun f hf => lx_slash f _ hf
theorem Cut.cG (c : Cut ws L L1 L2 g t ts') {y : List Nat} (hy : y = [] ∨ y = [97] ∨ y = [92]) : Bad (((txt L1 ++ g) ++ [32, 34]) ++ y) ((((txt L1 ++ g) ++ [32, 34]) ++ y).length) := by
  have hln := c.ln
  rw [c.tx2] at hln
  have hyl : y.length ≤ 1 := by rcases hy with rfl | rfl | rfl <;> simp
  have e1 : ((txt L1 ++ g) ++ [32, 34]) ++ y = (txt L1 ++ g) ++ 32 :: (34 :: y) := by simp
  rw [e1]
  refine c.err (by simp only [List.length_append, List.length_cons, List.length_nil] at hln ⊢; omega) fun f hf => ?_
  rw [lx_open hy f _ hf]
  congr 1
  simp only [List.length_append, List.length_cons]
  omega
end
end K02

set_option Elab.async false
set_option linter.all false
set_option maxRecDepth 100000
set_option maxHeartbeats 4000000
namespace K02
open G Q1
theorem pw_inj : ∀ a b : Nat × Tok, pw a = pw b → a = b := fun a b h => by
  unfold pw at h
  simp only [W.tup.injEq, List.cons.injEq, W.int.injEq, W.str.injEq, and_true] at h
  obtain ⟨h1, h2⟩ := h
  obtain ⟨a1, a2⟩ := a
  obtain ⟨b1, b2⟩ := b
  simp only at h1 h2
  rw [show a1 = b1 from by omega, h2]
abbrev no11 : Env := [none, none, none, none, none, none, none, none, none, none, none]
abbrev N0 : Option W := none
theorem pre_ok (ns : List Int) (hn : ns.length ≤ 63) : ∃ (ws : List W) (L L1 L2 : Its) (g t : List Nat) (ts' : List Tok) (gap more : List Nat) (a b : Int) (pl : W), Cut ws L L1 L2 g t ts' ∧ Bl gap ∧ gap.length ≤ 2 ∧ more ∈ [[97], [40], [41], [39], [35, 39], [34, 120, 34], [53], [110, 105, 108]] ∧
    ∀ S2, evS pk.pg (callD pk.pg 39) (.seq (.asg (.v 1) (.call 24 (.cons (.var 0) .nil))) (.seq (.asg (.v 2) (.tup (.cons (.call 27 (.cons (.var 1) .nil)) (.cons (.call 29 (.cons (.var 1) (.cons (.bin .add (.k (.int 1)) (.call 25 (.cons (.var 1) (.cons (.k (.int 3)) .nil)))) .nil))) (.cons (.call 29 (.cons (.var 1) (.cons (.k (.int 1)) .nil))) .nil))))) (.seq (.asg (.v 3) (.call 21 (.cons (.var 2) .nil))) (.seq (.asg (.v 4) (.lc (.cons (.v 7) (.cons (.v 17) .nil)) (.itr (.call 22 (.cons (.var 3) .nil))) .nil (.var 7) [7, 17])) (.seq (.par2 5 6 (.call 26 (.cons (.var 1) (.cons (.lst (.cons (.k (.str [])) (.cons (.k (.str [32])) (.cons (.k (.str [10, 32])) .nil)))) .nil))) (.call 26 (.cons (.var 1) (.cons (.lst (.cons (.k (.str [97])) (.cons (.k (.str [40])) (.cons (.k (.str [41])) (.cons (.k (.str [39])) (.cons (.k (.str [35, 39])) (.cons (.k (.str [34, 120, 34])) (.cons (.k (.str [53])) (.cons (.k (.str [110, 105, 108])) .nil))))))))) .nil)))) (.seq (.ife (.and (.cmp .ne (.ix (.var 3) (.k (.int 0))) (.k (.str [40]))) (.and (.cmp .notin (.var 6) (.k (.str [40, 41, 39]))) (.cmp .notin (.ix (.var 6) (.k (.int 0))) (.k (.str [35, 34]))))) (.seq (.asg (.v 5) (.k (.str [32]))) .nil) .nil) (.seq (.asg (.v 7) (.ix (.var 4) (.bin .add (.k (.int 1)) (.call 25 (.cons (.var 1) (.cons (.bin .sub (.bi .len (.cons (.var 4) .nil)) (.k (.int 1))) .nil)))))) S2))))))) (some (.scr ns) :: List.replicate 18 none) [] =
      evS pk.pg (callD pk.pg 39) S2 [some (.scr ns), some (.ref 0), some (.tup ws), some (.str (txt L)), some pl, some (.str gap), some (.str more), some (.int (((txt L1 ++ g).length : Nat))), N0, N0, N0, N0, N0, N0, N0, N0, N0, N0, N0] (cup a b []) := by
  obtain ⟨a0, b0, ec⟩ := cup_ok 38 ns hn
  obtain ⟨l, a1, b1, hl1, hl2, e1⟩ := lawword_ok 36 a0 b0 []
  obtain ⟨r, a2, b2, r1, r2, er⟩ := roll 38 3 a1 b1 [] (by omega) (by omega)
  obtain ⟨n, hnn, hle⟩ : ∃ n : Nat, (1 + r : Int) = n ∧ n ≤ 3 := ⟨(1 + r).toNat, by omega, by omega⟩
  obtain ⟨w1, a3, b3, hG1, e2⟩ := lawdatum_ok (35 - n) [] n a2 b2
  rw [show 35 - n + n + 4 = 39 from by omega] at e2
  obtain ⟨w2, a4, b4, hG2, e3⟩ := lawdatum_ok 34 [] 1 a3 b3
  have e3 : callD pk.pg 39 29 [.ref 0, .int 1] (cup a3 b3 []) = .ok w2 (cup a4 b4 []) := e3
  have b85 : ∀ k, k ≤ 3 → bnd4 k ≤ 85 := fun k hk => by
    have : k = 0 ∨ k = 1 ∨ k = 2 ∨ k = 3 := by omega
    rcases this with rfl | rfl | rfl | rfl <;> decide
  have s1 : szW w1 ≤ 85 := Nat.le_trans hG1.2.2.2 (b85 n hle)
  have s2 : szW w2 ≤ 5 := hG2.2.2.2
  have hgd : gdW (.tup [.str l, w1, w2]) = true := by
    simp only [gdW, gds, atB, hl1, hG1.1, hG2.1, Bool.true_or, Bool.and_self]
  have hpl : plW (.tup [.str l, w1, w2]) = true := by
    have : decide (l.length ≤ 16777216) = true := by simp [bnd, G.ret, rd, opt, eS, seqI, seqL, biop, bInt, bLen, bList, bAbs, binop, big, asg, asgs, fits, line, bIsi, isTy, bTuple]; omega
    simp only [plW, pls, plain, okLen, this, hG1.2.1, hG2.2.1, Bool.and_self]
  have hsz : szW (.tup [.str l, w1, w2]) ≤ 92 := by simp only [szW, szs]; omega
  have hdp : dpW (.tup [.str l, w1, w2]) ≤ 6 := by
    have := hG1.2.2.1
    have := hG2.2.2.1
    simp only [dpW, dps]; omega
  have hok : okD (.tup [.str l, w1, w2]) = true := by
    simp only [okD, hgd, Bool.true_and, Bool.and_eq_true, decide_eq_true_eq]; omega
  have e4 := fun s => datumtext_ok 27 (.tup [.str l, w1, w2]) s hok hpl (by omega)
  obtain ⟨L, c1, c2, c3⟩ := canon _ (.tup [.str l, w1, w2]) (Nat.le_refl _) hgd [] bl_nil
  rw [List.nil_append] at c1
  have c3 := c3 false fun q => by cases q
  obtain ⟨ts', k1, k2⟩ := tk_tup c2 rfl rfl
  have wl := wr_len _ (.tup [.str l, w1, w2]) (Nat.le_refl _) hgd
  have e5 : ∀ s, callD pk.pg 39 22 [.str (txt L)] s = .ok (.lst ((due 0 L).map pw)) s := fun s => by
    have := tokensof_ok 33 (txt L) s (by rw [c1]; omega)
    rw [toks_ok c3] at this
    exact this
  obtain ⟨i1, y1, a5, b5, hy1, e6⟩ := somL 37 [.str [], .str [32], .str [10, 32]] a4 b4 [] (by simp [bnd, G.ret, rd, opt, eS, seqI, seqL, biop, bInt, bLen, bList, bAbs, binop, big, asg, asgs, fits, line, bIsi, isTy, bTuple]) (by simp [bnd, G.ret, rd, opt, eS, seqI, seqL, biop, bInt, bLen, bList, bAbs, binop, big, asg, asgs, fits, line, bIsi, isTy, bTuple])
  obtain ⟨gap, hy1', hgb, hgl⟩ : ∃ g, y1 = .str g ∧ Bl g ∧ g.length ≤ 2 := by
    have hm := List.mem_of_getElem? hy1
    simp only [List.mem_cons, List.not_mem_nil, or_false] at hm
    rcases hm with h | h | h
    · exact ⟨_, h, by decide, by decide⟩
    · exact ⟨_, h, by decide, by decide⟩
    · exact ⟨_, h, by decide, by decide⟩
  subst hy1'
  obtain ⟨i2, y2, a6, b6, hy2, e7⟩ := somL 37 ([[97], [40], [41], [39], [35, 39], [34, 120, 34], [53], [110, 105, 108]].map .str) a5 b5 [] (by simp [bnd, G.ret, rd, opt, eS, seqI, seqL, biop, bInt, bLen, bList, bAbs, binop, big, asg, asgs, fits, line, bIsi, isTy, bTuple]) (by simp [bnd, G.ret, rd, opt, eS, seqI, seqL, biop, bInt, bLen, bList, bAbs, binop, big, asg, asgs, fits, line, bIsi, isTy, bTuple])
  obtain ⟨more, hy2', hmm⟩ : ∃ m, y2 = .str m ∧ m ∈ [[97], [40], [41], [39], [35, 39], [34, 120, 34], [53], [110, 105, 108]] := by
    have hm := List.mem_of_getElem? hy2
    obtain ⟨m, hm, e⟩ := List.mem_map.mp hm
    exact ⟨m, e.symm, hm⟩
  subst hy2'
  have hlen : L.length = ts'.length + 2 := by
    have := congrArg List.length k1
    simpa [bnd, G.ret, rd, opt, eS, seqI, seqL, biop, bInt, bLen, bList, bAbs, binop, big, asg, asgs, fits, line, bIsi, isTy, bTuple] using this
  have hmany : (((due 0 L).map fun p => W.int (p.1 : Nat)).length : Int) - 1 = ((ts'.length + 1 : Nat) : Int) := by
    rw [List.length_map, due_len, hlen]; omega
  obtain ⟨j, a7, b7, j1, j2, e8⟩ := roll 38 ((ts'.length + 1 : Nat) : Int) a6 b6 [] (by omega) (by
    have h1 := (cnt_tk k2).2
    simp only at h1
    have : szs [W.str l, w1, w2] ≤ 92 := by simp only [szW] at hsz; omega
    omega)
  obtain ⟨k, hk, hk1, hk2⟩ : ∃ k : Nat, (1 + j : Int) = k ∧ 1 ≤ k ∧ k < L.length := ⟨(1 + j).toNat, by omega, by omega, by omega⟩
  obtain ⟨p, hp⟩ : ∃ p, L[k]? = some p := ⟨_, List.getElem?_eq_getElem hk2⟩
  obtain ⟨g, t⟩ := p
  have hsplit : L = L.take k ++ (g, t) :: L.drop (k + 1) := by
    have h1 := (List.take_append_drop k L).symm
    rw [List.drop_eq_getElem_cons hk2] at h1
    rw [List.getElem?_eq_getElem hk2] at hp
    injection hp with hp
    rw [hp] at h1
    exact h1
  have hcut : Cut [.str l, w1, w2] L (L.take k) (L.drop (k + 1)) g t ts' := ⟨hsplit, by
    intro q
    have := congrArg List.length q
    rw [List.length_take] at this
    simp only [List.length_nil] at this
    omega, c1, k2, k1, c3, by omega, by rw [c1]; omega⟩
  have hat : ((due 0 L).map fun p => W.int (p.1 : Nat))[k]? = some (.int (((txt (L.take k) ++ g).length : Nat))) := by
    have hd : due 0 L = due 0 (L.take k) ++ due (0 + (txt (L.take k)).length) ((g, t) :: L.drop (k + 1)) := by
      rw [← due_app, ← hsplit]
    rw [hd, List.map_append, List.getElem?_append_right (by rw [List.length_map, due_len, List.length_take]; omega), List.length_map, due_len, List.length_take]
    rw [show k - min k L.length = 0 from by omega]
    simp [bnd, G.ret, rd, opt, eS, seqI, seqL, biop, bInt, bLen, bList, bAbs, binop, big, asg, asgs, fits, line, bIsi, isTy, bTuple, due]
  have hix : ∀ s, item (.lst ((due 0 L).map fun p => W.int (p.1 : Nat))) (.int (k : Nat)) s = some (.int (((txt (L.take k) ++ g).length : Nat))) := fun s => by
    have hlt : k < ((due 0 L).map fun p => W.int (p.1 : Nat)).length := by rw [List.length_map, due_len]; exact hk2
    have : ixOf (k : Int) ((due 0 L).map fun p => W.int (p.1 : Nat)).length = some k := by
      unfold ixOf
      rw [if_pos (by omega), if_pos (by omega)]
      rfl
    simp only [item, seqI, Option.bind_some, this, hat]
  refine ⟨[.str l, w1, w2], L, L.take k, L.drop (k + 1), g, t, ts', gap, more, a7, b7, .lst ((due 0 L).map fun p => W.int (p.1 : Nat)), hcut, hgb, hgl, hmm, fun S2 => ?_⟩
  have hlt : (due 0 L).length ≤ 16777216 := by
    rw [due_len, hlen]
    have h1 := (cnt_tk k2).2
    simp only at h1
    have : szs [W.str l, w1, w2] ≤ 92 := by simp only [szW] at hsz; omega
    omega
  generalize hws : W.tup [.str l, w1, w2] = w at *
  have hfirst : ∀ s, item (.str (txt L)) (.int 0) s = some (.str [40]) := fun s => by
    obtain ⟨Lr, hLr⟩ := hcut.first
    have hl3 := hcut.ln
    rw [hLr] at hl3 ⊢
    have e : txt (([], [40]) :: Lr) = 40 :: txt Lr := by simp [bnd, G.ret, rd, opt, eS, seqI, seqL, biop, bInt, bLen, bList, bAbs, binop, big, asg, asgs, fits, line, bIsi, isTy, bTuple, txt]
    rw [e] at hl3 ⊢
    exact item0 40 (txt Lr) s (by simp only [List.length_cons] at hl3; omega)
  generalize (txt (L.take k) ++ g).length = at_ at *
  have q0 : ∀ S2, evS pk.pg (callD pk.pg 39) (.seq (.asg (.v 1) (.call 24 (.cons (.var 0) .nil))) S2) (some (.scr ns) :: List.replicate 18 none) [] = evS pk.pg (callD pk.pg 39) S2 [some (.scr ns), some (.ref 0), N0, N0, N0, N0, N0, N0, N0, N0, N0, N0, N0, N0, N0, N0, N0, N0, N0] (cup a0 b0 []) := fun S2 => by
    simp [bnd, G.ret, rd, opt, eS, seqI, seqL, biop, bInt, bLen, bList, bAbs, binop, big, asg, asgs, fits, line, bIsi, isTy, bTuple, ec]
  have q1 : ∀ S2, evS pk.pg (callD pk.pg 39) (.seq (.asg (.v 2) (.tup (.cons (.call 27 (.cons (.var 1) .nil)) (.cons (.call 29 (.cons (.var 1) (.cons (.bin .add (.k (.int 1)) (.call 25 (.cons (.var 1) (.cons (.k (.int 3)) .nil)))) .nil))) (.cons (.call 29 (.cons (.var 1) (.cons (.k (.int 1)) .nil))) .nil))))) S2) [some (.scr ns), some (.ref 0), N0, N0, N0, N0, N0, N0, N0, N0, N0, N0, N0, N0, N0, N0, N0, N0, N0] (cup a0 b0 []) = evS pk.pg (callD pk.pg 39) S2 [some (.scr ns), some (.ref 0), some w, N0, N0, N0, N0, N0, N0, N0, N0, N0, N0, N0, N0, N0, N0, N0, N0] (cup a4 b4 []) := fun S2 => by
    simp [bnd, G.ret, rd, opt, eS, seqI, seqL, biop, bInt, bLen, bList, bAbs, binop, big, asg, asgs, fits, line, bIsi, isTy, bTuple, e1, er, hnn, e2, e3, hws]
  have q2 : ∀ S2, evS pk.pg (callD pk.pg 39) (.seq (.asg (.v 3) (.call 21 (.cons (.var 2) .nil))) S2) [some (.scr ns), some (.ref 0), some w, N0, N0, N0, N0, N0, N0, N0, N0, N0, N0, N0, N0, N0, N0, N0, N0] (cup a4 b4 []) = evS pk.pg (callD pk.pg 39) S2 [some (.scr ns), some (.ref 0), some w, some (.str (txt L)), N0, N0, N0, N0, N0, N0, N0, N0, N0, N0, N0, N0, N0, N0, N0] (cup a4 b4 []) := fun S2 => by
    rw [c1]
    simp [bnd, G.ret, rd, opt, eS, seqI, seqL, biop, bInt, bLen, bList, bAbs, binop, big, asg, asgs, fits, line, bIsi, isTy, bTuple, e4]
  generalize hS4 : cup a4 b4 [] = s4 at *
  have hlc : evE pk.pg (callD pk.pg 39) (.lc (.cons (.v 7) (.cons (.v 17) .nil)) (.itr (.call 22 (.cons (.var 3) .nil))) .nil (.var 7) [7, 17]) [some (.scr ns), some (.ref 0), some w, some (.str (txt L)), N0, N0, N0, N0, N0, N0, N0, N0, N0, N0, N0, N0, N0, N0, N0] s4 = .ok (.lst ((due 0 L).map fun p => W.int (p.1 : Nat))) s4 :=
    lc_mapL (f := pw) (h := fun p => W.int (p.1 : Nat)) (by simp [bnd, G.ret, rd, opt, eS, seqI, seqL, biop, bInt, bLen, bList, bAbs, binop, big, asg, asgs, fits, line, bIsi, isTy, bTuple, e5, srcOf]) pw_inj (fun p _ => ⟨[some (.scr ns), some (.ref 0), some w, some (.str (txt L)), N0, N0, N0, some (.int (p.1 : Nat)), N0, N0, N0, N0, N0, N0, N0, N0, N0, some (.str p.2), N0], by simp [bnd, G.ret, rd, opt, eS, seqI, seqL, biop, bInt, bLen, bList, bAbs, binop, big, asg, asgs, fits, line, bIsi, isTy, bTuple, wipes, pw], by simp [bnd, G.ret, rd, opt, eS, seqI, seqL, biop, bInt, bLen, bList, bAbs, binop, big, asg, asgs, fits, line, bIsi, isTy, bTuple]⟩) hlt
  have q3 : ∀ S2, evS pk.pg (callD pk.pg 39) (.seq (.asg (.v 4) (.lc (.cons (.v 7) (.cons (.v 17) .nil)) (.itr (.call 22 (.cons (.var 3) .nil))) .nil (.var 7) [7, 17])) S2) [some (.scr ns), some (.ref 0), some w, some (.str (txt L)), N0, N0, N0, N0, N0, N0, N0, N0, N0, N0, N0, N0, N0, N0, N0] s4 = evS pk.pg (callD pk.pg 39) S2 [some (.scr ns), some (.ref 0), some w, some (.str (txt L)), some (.lst ((due 0 L).map fun p => W.int (p.1 : Nat))), N0, N0, N0, N0, N0, N0, N0, N0, N0, N0, N0, N0, N0, N0] s4 := fun S2 => by
    rw [xS_seq, xS_asg]
    simp only [eS, hlc]
    rfl
  have hdl : ((due 0 L).map fun p => W.int (p.1 : Nat)).length = ts'.length + 2 := by rw [List.length_map, due_len, hlen]
  generalize ((due 0 L).map fun p => W.int (p.1 : Nat)) = pl at *
  subst hS4
  have q4 : ∀ S2, evS pk.pg (callD pk.pg 39) (.seq (.par2 5 6 (.call 26 (.cons (.var 1) (.cons (.lst (.cons (.k (.str [])) (.cons (.k (.str [32])) (.cons (.k (.str [10, 32])) .nil)))) .nil))) (.call 26 (.cons (.var 1) (.cons (.lst (.cons (.k (.str [97])) (.cons (.k (.str [40])) (.cons (.k (.str [41])) (.cons (.k (.str [39])) (.cons (.k (.str [35, 39])) (.cons (.k (.str [34, 120, 34])) (.cons (.k (.str [53])) (.cons (.k (.str [110, 105, 108])) .nil))))))))) .nil)))) S2) [some (.scr ns), some (.ref 0), some w, some (.str (txt L)), some (.lst pl), N0, N0, N0, N0, N0, N0, N0, N0, N0, N0, N0, N0, N0, N0] (cup a4 b4 []) = evS pk.pg (callD pk.pg 39) S2 [some (.scr ns), some (.ref 0), some w, some (.str (txt L)), some (.lst pl), some (.str gap), some (.str more), N0, N0, N0, N0, N0, N0, N0, N0, N0, N0, N0, N0] (cup a6 b6 []) := fun S2 => by
    have e7 : callD pk.pg (37 + 2) 26 [.ref 0, .lst [.str [97], .str [40], .str [41], .str [39], .str [35, 39], .str [34, 120, 34], .str [53], .str [110, 105, 108]]] (cup a5 b5 []) = .ok (.str more) (cup a6 b6 []) := e7
    simp [bnd, G.ret, rd, opt, eS, seqI, seqL, biop, bInt, bLen, bList, bAbs, binop, big, asg, asgs, fits, line, bIsi, isTy, bTuple, e6, e7]
  have q5 : ∀ S2, evS pk.pg (callD pk.pg 39) (.seq (.ife (.and (.cmp .ne (.ix (.var 3) (.k (.int 0))) (.k (.str [40]))) (.and (.cmp .notin (.var 6) (.k (.str [40, 41, 39]))) (.cmp .notin (.ix (.var 6) (.k (.int 0))) (.k (.str [35, 34]))))) (.seq (.asg (.v 5) (.k (.str [32]))) .nil) .nil) S2) [some (.scr ns), some (.ref 0), some w, some (.str (txt L)), some (.lst pl), some (.str gap), some (.str more), N0, N0, N0, N0, N0, N0, N0, N0, N0, N0, N0, N0] (cup a6 b6 []) = evS pk.pg (callD pk.pg 39) S2 [some (.scr ns), some (.ref 0), some w, some (.str (txt L)), some (.lst pl), some (.str gap), some (.str more), N0, N0, N0, N0, N0, N0, N0, N0, N0, N0, N0, N0] (cup a6 b6 []) := fun S2 => by
    simp [bnd, G.ret, rd, opt, eS, seqI, seqL, biop, bInt, bLen, bList, bAbs, binop, big, asg, asgs, fits, line, bIsi, isTy, bTuple, hfirst, ne_str]
  have q6 : ∀ S2, evS pk.pg (callD pk.pg 39) (.seq (.asg (.v 7) (.ix (.var 4) (.bin .add (.k (.int 1)) (.call 25 (.cons (.var 1) (.cons (.bin .sub (.bi .len (.cons (.var 4) .nil)) (.k (.int 1))) .nil)))))) S2) [some (.scr ns), some (.ref 0), some w, some (.str (txt L)), some (.lst pl), some (.str gap), some (.str more), N0, N0, N0, N0, N0, N0, N0, N0, N0, N0, N0, N0] (cup a6 b6 []) = evS pk.pg (callD pk.pg 39) S2 [some (.scr ns), some (.ref 0), some w, some (.str (txt L)), some (.lst pl), some (.str gap), some (.str more), some (.int (at_ : Nat)), N0, N0, N0, N0, N0, N0, N0, N0, N0, N0, N0] (cup a7 b7 []) := fun S2 => by
    have hpl1 : ((pl.length : Int) - 1) = ((ts'.length + 1 : Nat) : Int) := by omega
    have hpe : evE pk.pg (callD pk.pg 39) (.ix (.var 4) (.bin .add (.k (.int 1)) (.call 25 (.cons (.var 1) (.cons (.bin .sub (.bi .len (.cons (.var 4) .nil)) (.k (.int 1))) .nil))))) [some (.scr ns), some (.ref 0), some w, some (.str (txt L)), some (.lst pl), some (.str gap), some (.str more), N0, N0, N0, N0, N0, N0, N0, N0, N0, N0, N0, N0] (cup a6 b6 []) = .ok (.int (at_ : Nat)) (cup a7 b7 []) := by
      rw [← hpl1] at e8
      simp [bnd, G.ret, rd, opt, eS, seqI, seqL, biop, bInt, bLen, bList, bAbs, binop, big, asg, asgs, fits, line, bIsi, isTy, bTuple, e8, hk, hix]
    rw [xS_seq, xS_asg]
    simp only [eS, hpe]
    rfl
  rw [q0, q1, q2, q3, q4, q5, q6]
end K02

set_option Elab.async false
set_option linter.all false
set_option maxRecDepth 100000
set_option maxHeartbeats 4000000
namespace K02
open G Q1
section
variable {P : Pg} {call : Nat → List W → M W} {env : Env} {s : G.ST}
/-- a comprehension that lets nothing pass -/
theorem lc_none {t : T} {it ifs e : E} {own : List Nat} {xs : List W} (hi : evI P call it env s = .ok (.row xs) s) (h : ∀ x ∈ xs, ∃ env', G.asg t x (wipes env own) = some env' ∧ evB P call ifs env' s = .ok false s) (hl : xs.length ≤ line) : evE P call (.lc t it ifs e own) env s = .ok (.lst []) s := by
  have := lc_row (P := P) (call := call) (env := env) (s := s) (s' := s) (t := t) (it := it) (ifs := ifs) (e := e) (own := own) hi (fun _ => none) (fun x hx => by
    obtain ⟨env', h1, h2⟩ := h x hx
    exact ⟨env', h1, .inl ⟨rfl, h2⟩⟩) hl
  rw [this]
  have e : ∀ l : List W, l.filterMap (fun _ => (none : Option W)) = [] := fun l => by induction l <;> simp_all [bnd, G.ret, rd, opt, eS, seqI, seqL, biop, bInt, bLen, bList, bAbs, binop, big, asg, asgs, fits, line, bIsi, isTy, bTuple]
  rw [e]
theorem compL_none {f : W → M (Option W)} {n : Nat} {xs : List W} (hs : s[n]? = some xs) (h : ∀ x ∈ xs, f x s = .ok none s) : ∀ k i, i ≤ xs.length → xs.length < k + i → compL (fun _ x => x) f n k i s = .ok [] s
  | 0, i, hi, hk => by omega
  | k + 1, i, hi, hk => by
    have hl : liveAt n i s = some xs[i]? := by unfold liveAt; rw [hs]
    cases q : xs[i]? with
    | none =>
      rw [q] at hl
      simp only [compL, G.bnd, G.rd, hl, G.ret]
    | some x =>
      rw [q] at hl
      have h1 := h x (List.mem_of_getElem? q)
      have hi := (List.getElem?_eq_some_iff.mp q).1
      have ih := compL_none hs h k (i + 1) (by omega) (by omega)
      simp only [compL, G.bnd, G.rd, hl, h1, ih, G.ret, ocons]
theorem lc_live {t : T} {it ifs e : E} {own : List Nat} {xs : List W} {n : Nat} (hi : evI P call it env s = .ok (.live n) s) (hs : s[n]? = some xs) (h : ∀ x ∈ xs, ∃ env', G.asg t x (wipes env own) = some env' ∧ evB P call ifs env' s = .ok false s) (hl : xs.length < P.fuel) : evE P call (.lc t it ifs e own) env s = .ok (.lst []) s := by
  have hc := compL_none (f := stepG P call t ifs e own env) hs (fun x hx => by
    obtain ⟨env', h1, h2⟩ := h x hx
    simp only [stepG, h1, G.bnd, h2, G.ret]
    rfl) P.fuel 0 (by omega) (by omega)
  rw [evE_lc]
  simp only [G.bnd, hi, noexc, G.fits, compS, hc, G.ret]
  rfl
theorem ife_no {c : E} {a : G.S} {s' : G.ST} (h : evE P call c env s = .ok (.bl false) s') : evS P call (.ife c a .nil) env s = .ok .nx env s' := by
  rw [evS]
  simp only [G.eS, h]
  rw [evS]
end
/-! what reading a text comes to -/
inductive Ans where | good | dat | txt (e : Nat)
  deriving DecidableEq
def ans (X : List Nat) : Option Ans := match toks X with
  | .error e => some (.txt e)
  | .ok l => if shB 0 0 (l.map (·.2)) = false then some .dat else match dby l X.length with
    | .error e => some (.txt e)
    | .ok w => if (plW w && decide (szW w ≤ 500000)) = true then (if okD w = true then some .good else some .dat) else none
def word : Ans → List Nat
  | .good => []
  | .dat => datS
  | .txt e => txtS ++ intStr (e : Nat)
def small : Ans → Bool
  | .txt e => decide (e ≤ 1000000)
  | _ => true
theorem read_ans (d : Nat) (X : List Nat) (r : Ans) (s : G.ST) (hl : X.length ≤ 200000) (h : ans X = some r) : (r = .good ∧ ∃ w, callD pk.pg (d + 6) 23 [.str X] s = .ok w s) ∨ (r = .dat ∧ callD pk.pg (d + 6) 23 [.str X] s = .exc 0 [] s) ∨ ∃ e, r = .txt e ∧ callD pk.pg (d + 6) 23 [.str X] s = .exc 1 [.int (e : Nat)] s := by
  unfold ans at h
  cases q : toks X with
  | error e =>
    rw [q] at h
    cases h
    exact .inr (.inr ⟨e, rfl, read_lex d X e s (by omega) q⟩)
  | ok l =>
    rw [q] at h
    dsimp only at h
    cases q2 : shB 0 0 (l.map (·.2)) with
    | false =>
      rw [q2, if_pos rfl] at h
      cases h
      exact .inr (.inl ⟨rfl, read_deep d X l s hl q q2⟩)
    | true =>
      rw [q2, if_neg (by simp [bnd, G.ret, rd, opt, eS, seqI, seqL, biop, bInt, bLen, bList, bAbs, binop, big, asg, asgs, fits, line, bIsi, isTy, bTuple])] at h
      cases q3 : dby l X.length with
      | error e =>
        rw [q3] at h
        cases h
        exact .inr (.inr ⟨e, rfl, read_line d X l e s hl q q2 q3⟩)
      | ok w =>
        rw [q3] at h
        dsimp only at h
        split at h
        · rename_i hp
          simp only [Bool.and_eq_true, decide_eq_true_eq] at hp
          split at h
          · rename_i ho
            cases h
            exact .inl ⟨rfl, w, read_ok d X l w s hl q q2 q3 ho hp.1 hp.2⟩
          · rename_i ho
            cases h
            exact .inr (.inl ⟨rfl, read_odd d X l w s hl q q2 q3 (by simpa [bnd, G.ret, rd, opt, eS, seqI, seqL, biop, bInt, bLen, bList, bAbs, binop, big, asg, asgs, fits, line, bIsi, isTy, bTuple] using ho) hp.1 hp.2⟩)
        · cases h
theorem clo_ans {i : Nat} {env : Env} {s : G.ST} {X : List Nat} {r : Ans} (he : env[i]? = some (some (.str X))) (hl : X.length ≤ 200000) (h : ans X = some r) (hs : small r = true) : evE pk.pg (callD pk.pg 39) (.clo 0 (.call 23 (.cons (.var i) .nil))) env s = .ok (.str (word r)) s := by
  have ev : evE pk.pg (callD pk.pg 37) (.call 23 (.cons (.var i) .nil)) env s = callD pk.pg 37 23 [.str X] s := by
    rw [xE_call, xA_cons, xA_nil, xE_var, he]
    rfl
  rcases read_ans 31 X r s hl h with ⟨rfl, w, q⟩ | ⟨rfl, q⟩ | ⟨e, rfl, q⟩
  · exact clo_good (D := 37) (ev.trans q)
  · exact clo_datum (D := 37) (ev.trans q)
  · have : e ≤ 1000000 := by simpa [bnd, G.ret, rd, opt, eS, seqI, seqL, biop, bInt, bLen, bList, bAbs, binop, big, asg, asgs, fits, line, bIsi, isTy, bTuple, small] using hs
    exact clo_text (D := 37) (ev.trans q) (by omega) (by omega)
theorem clo_bad {i : Nat} {env : Env} {s : G.ST} {X : List Nat} {e : Nat} (he : env[i]? = some (some (.str X))) (h : Bad X e) (hs : e ≤ 1000000) : evE pk.pg (callD pk.pg 39) (.clo 0 (.call 23 (.cons (.var i) .nil))) env s = .ok (.str (txtS ++ intStr (e : Nat))) s := by
  have ev : evE pk.pg (callD pk.pg 37) (.call 23 (.cons (.var i) .nil)) env s = callD pk.pg 37 23 [.str X] s := by
    rw [xE_call, xA_cons, xA_nil, xE_var, he]
    rfl
  exact clo_text (D := 37) (ev.trans (h.read 31 s)) (by omega) (by omega)
theorem cmp_no {a b : E} {env : Env} {s : G.ST} {l : List Nat} (h1 : evE pk.pg (callD pk.pg 39) a env s = .ok (.str l) s) (h2 : evE pk.pg (callD pk.pg 39) b env s = .ok (.str l) s) : evB pk.pg (callD pk.pg 39) (.cons (.cmp .ne a b) .nil) env s = .ok false s := by
  rw [xB_cons, xE_cmp]
  simp only [G.bnd, h1, h2, G.rd]
  have : cmpop .ne (soft (.str l)) (soft (.str l)) s = some false := by
    show cmpop .ne (.str l) (.str l) s = _
    rw [ne_str]; simp [bnd, G.ret, rd, opt, eS, seqI, seqL, biop, bInt, bLen, bList, bAbs, binop, big, asg, asgs, fits, line, bIsi, isTy, bTuple]
  rw [this]
  rfl
theorem len_intStr (e : Nat) (h : e ≤ 1000000) : (intStr (e : Nat)).length ≤ 900 := intStr_len (by omega) (by omega)
theorem due_gen {i : Nat} {env : Env} {s : G.ST} {z : Int} (he : env[i]? = some (some (.int z))) (h1 : -18446744073709551616 < z) (h2 : z < 18446744073709551616) (hl : (intStr z).length ≤ 900) : evE pk.pg (callD pk.pg 39) (.bin .add (.k (.str [116, 101, 120, 116, 32])) (.bi .str (.cons (.var i) .nil))) env s = .ok (.str (txtS ++ intStr z)) s := by
  have l1 : 5 + (intStr z).length ≤ 16777216 := by omega
  generalize hx : intStr z = x at *
  simp [bnd, G.ret, rd, opt, eS, seqI, seqL, biop, bInt, bLen, bList, bAbs, binop, big, asg, asgs, fits, line, bIsi, isTy, bTuple, he, bStr, h1, h2, l1, hx, txtS]
theorem due_ev {i : Nat} {env : Env} {s : G.ST} {e : Nat} (he : env[i]? = some (some (.int (e : Nat)))) (hs : e ≤ 1000000) : evE pk.pg (callD pk.pg 39) (.bin .add (.k (.str [116, 101, 120, 116, 32])) (.bi .str (.cons (.var i) .nil))) env s = .ok (.str (txtS ++ intStr (e : Nat))) s :=
  due_gen he (by omega) (by omega) (len_intStr e hs)
end K02

set_option Elab.async false
set_option linter.all false
set_option maxRecDepth 100000
set_option maxHeartbeats 4000000
namespace K02
open G Q1
theorem sl_pre (A B : List Nat) (s : G.ST) (h : (A ++ B).length ≤ 16777216) : slice (.str (A ++ B)) none (some (A.length : Nat)) s = some (.str A) := by
  have e1 : cutIx (A ++ B).length (A ++ B).length (some (A.length : Nat)) = A.length := by
    unfold cutIx
    dsimp only
    rw [if_neg (by omega), List.length_append]
    omega
  have e2 : cutIx (A ++ B).length 0 none = 0 := rfl
  simp only [slice, line, h, if_true, cut, e1, e2]
  simp [bnd, G.ret, rd, opt, eS, seqI, seqL, biop, bInt, bLen, bList, bAbs, binop, big, asg, asgs, fits, line, bIsi, isTy, bTuple]
theorem sl_suf (A B : List Nat) (s : G.ST) (h : (A ++ B).length ≤ 16777216) : slice (.str (A ++ B)) (some (A.length : Nat)) none s = some (.str B) := by
  have e1 : cutIx (A ++ B).length 0 (some (A.length : Nat)) = A.length := by
    unfold cutIx
    dsimp only
    rw [if_neg (by omega), List.length_append]
    omega
  have e2 : cutIx (A ++ B).length (A ++ B).length none = (A ++ B).length := rfl
  simp only [slice, line, h, if_true, cut, e1, e2]
  rw [List.drop_left, List.take_of_length_le (by simp [bnd, G.ret, rd, opt, eS, seqI, seqL, biop, bInt, bLen, bList, bAbs, binop, big, asg, asgs, fits, line, bIsi, isTy, bTuple])]
def cW (c : List Nat × Nat) : W := .tup [.str c.1, .int (c.2 : Nat)]
abbrev eC (ns : List Int) (w : W) (T gap more : List Nat) (pl : W) (at_ : Nat) (x8 x9 : Option W) : Env := [some (.scr ns), some (.ref 0), some w, some (.str T), some pl, some (.str gap), some (.str more), some (.int (at_ : Nat)), x8, x9, N0, N0, N0, N0, N0, N0, N0, N0, N0]
theorem cases_ok (ns : List Int) (w pl : W) (A B gap more : List Nat) (a b : Int) (hAB : (A ++ B).length ≤ 150000) (hg : gap.length ≤ 2) (hm : more.length ≤ 3) :
    ∃ (bad y : List Nat) (a' b' : Int), bad ∈ bads ∧ (y = [] ∨ y = [97] ∨ y = [92]) ∧
    ∀ S2, evS pk.pg (callD pk.pg 39) (.seq (.asg (.v 8) (.mlst (.cons (.tup (.cons (.bin .add (.bin .add (.bin .add (.var 3) (.var 5)) (.k (.str [32]))) (.var 6)) (.cons (.bin .add (.bi .len (.cons (.bin .add (.var 3) (.var 5)) .nil)) (.k (.int 1))) .nil))) (.cons (.tup (.cons (.bin .add (.bin .add (.k (.str [41])) (.var 5)) (.var 3)) (.cons (.k (.int 0)) .nil))) (.cons (.tup (.cons (.sl (.var 3) .no (.itr (.var 7))) (.cons (.var 7) .nil))) (.cons (.tup (.cons (.bin .add (.sl (.var 3) .no (.itr (.var 7))) (.k (.str [39, 32, 41]))) (.cons (.bin .add (.var 7) (.k (.int 2))) .nil))) .nil)))))) (.seq (.asg (.v 9) (.call 26 (.cons (.var 1) (.cons (.lst (.cons (.k (.str [65])) (.cons (.k (.str [35])) (.cons (.k (.str [97, 46, 98])) (.cons (.k (.str [35, 97])) (.cons (.k (.str [123])) (.cons (.k (.str [57, 95])) .nil))))))) .nil)))) (.seq (.expr (.meth .append (.var 8) (.cons (.tup (.cons (.bin .add (.bin .add (.bin .add (.bin .add (.sl (.var 3) .no (.itr (.var 7))) (.k (.str [32]))) (.var 9)) (.k (.str [32]))) (.sl (.var 3) (.itr (.var 7)) .no)) (.cons (.bin .add (.var 7) (.k (.int 1))) .nil))) .nil))) (.seq (.expr (.meth .append (.var 8) (.cons (.tup (.cons (.bin .add (.bin .add (.sl (.var 3) .no (.itr (.var 7))) (.k (.str [32, 34, 97, 92, 98, 34, 32]))) (.sl (.var 3) (.itr (.var 7)) .no)) (.cons (.bin .add (.var 7) (.k (.int 1))) .nil))) .nil))) (.seq (.expr (.meth .append (.var 8) (.cons (.tup (.cons (.bin .add (.bin .add (.sl (.var 3) .no (.itr (.var 7))) (.k (.str [32, 34]))) (.call 26 (.cons (.var 1) (.cons (.lst (.cons (.k (.str [])) (.cons (.k (.str [97])) (.cons (.k (.str [92])) .nil)))) .nil)))) (.cons (.k (.int 0)) .nil))) .nil))) (.seq (.seti (.var 8) (.neg (.k (.int 1))) (.tup (.cons (.ix (.ix (.var 8) (.neg (.k (.int 1)))) (.k (.int 0))) (.cons (.bi .len (.cons (.ix (.ix (.var 8) (.neg (.k (.int 1)))) (.k (.int 0))) .nil)) .nil)))) S2)))))) (eC ns w (A ++ B) gap more pl A.length none none) (cup a b []) =
      evS pk.pg (callD pk.pg 39) S2 (eC ns w (A ++ B) gap more pl A.length (some (.ref 1)) (some (.str bad)))
        (cup a' b' [([((((A ++ B) ++ gap) ++ [32]) ++ more, ((A ++ B) ++ gap).length + 1), (([41] ++ gap) ++ (A ++ B), 0), (A, A.length), (A ++ [39, 32, 41], A.length + 2), ((((A ++ [32]) ++ bad) ++ [32]) ++ B, A.length + 1), ((A ++ [32, 34, 97, 92, 98, 34, 32]) ++ B, A.length + 1), ((A ++ [32, 34]) ++ y, ((A ++ [32, 34]) ++ y).length)]).map cW]) := by
  obtain ⟨i1, y1, a1, b1, hy1, e1⟩ := somL 37 (bads.map .str) a b [[cW ((((A ++ B) ++ gap) ++ [32]) ++ more, ((A ++ B) ++ gap).length + 1), cW (([41] ++ gap) ++ (A ++ B), 0), cW (A, A.length), cW (A ++ [39, 32, 41], A.length + 2)]] (by decide) (by decide)
  obtain ⟨bad, rfl, hbad⟩ : ∃ m, y1 = .str m ∧ m ∈ bads := by
    have hm := List.mem_of_getElem? hy1
    obtain ⟨m, hm, e⟩ := List.mem_map.mp hm
    exact ⟨m, e.symm, hm⟩
  obtain ⟨i2, y2, a2, b2, hy2, e2⟩ := somL 37 ([[], [97], [92]].map .str) a1 b1 [[cW ((((A ++ B) ++ gap) ++ [32]) ++ more, ((A ++ B) ++ gap).length + 1), cW (([41] ++ gap) ++ (A ++ B), 0), cW (A, A.length), cW (A ++ [39, 32, 41], A.length + 2), cW ((((A ++ [32]) ++ bad) ++ [32]) ++ B, A.length + 1), cW ((A ++ [32, 34, 97, 92, 98, 34, 32]) ++ B, A.length + 1)]] (by decide) (by decide)
  obtain ⟨y, rfl, hy⟩ : ∃ m, y2 = .str m ∧ (m = [] ∨ m = [97] ∨ m = [92]) := by
    have hm := List.mem_of_getElem? hy2
    simp only [List.map_cons, List.map_nil, List.mem_cons, List.not_mem_nil, or_false] at hm
    rcases hm with h | h | h
    · exact ⟨_, h, .inl rfl⟩
    · exact ⟨_, h, .inr (.inl rfl)⟩
    · exact ⟨_, h, .inr (.inr rfl)⟩
  have hbl := (bads_ok bad hbad).2.2.2
  have hyl : y.length ≤ 1 := by rcases hy with rfl | rfl | rfl <;> simp [bnd, G.ret, rd, opt, eS, seqI, seqL, biop, bInt, bLen, bList, bAbs, binop, big, asg, asgs, fits, line, bIsi, isTy, bTuple]
  have hp := fun s => sl_pre A B s (by omega)
  have hs := fun s => sl_suf A B s (by omega)
  refine ⟨bad, y, a2, b2, hbad, hy, fun S2 => ?_⟩
  have lA : A.length ≤ 150000 := by rw [List.length_append] at hAB; omega
  have lB : B.length ≤ 150000 := by rw [List.length_append] at hAB; omega
  have lT := hAB
  generalize hT : A ++ B = T at *
  clear hT
  have z1 : T.length + gap.length ≤ 16777216 := by omega
  have z2 : T.length + gap.length + 1 ≤ 16777216 := by omega
  have z3 : T.length + gap.length + 1 + more.length ≤ 16777216 := by omega
  have z3b : T.length + (gap.length + 1) + more.length ≤ 16777216 := by omega
  have z8b : A.length + (bad.length + 1) ≤ 16777216 := by omega
  have z9b : A.length + (bad.length + 1) + 1 ≤ 16777216 := by omega
  have z9c : A.length + (bad.length + (1 + 1)) ≤ 16777216 := by omega
  have z10b : A.length + (bad.length + 1 + 1) + B.length ≤ 16777216 := by omega
  have z10c : A.length + (bad.length + 2) + B.length ≤ 16777216 := by omega
  have z5b : gap.length + 1 + T.length ≤ 16777216 := by omega
  have z4 : 1 + gap.length ≤ 16777216 := by omega
  have z5 : 1 + gap.length + T.length ≤ 16777216 := by omega
  have z6 : A.length + 3 ≤ 16777216 := by omega
  have z7 : A.length + 1 ≤ 16777216 := by omega
  have z8 : A.length + 1 + bad.length ≤ 16777216 := by omega
  have z9 : A.length + 1 + bad.length + 1 ≤ 16777216 := by omega
  have z10 : A.length + 1 + bad.length + 1 + B.length ≤ 16777216 := by omega
  have z11 : A.length + 7 ≤ 16777216 := by omega
  have z12 : A.length + 7 + B.length ≤ 16777216 := by omega
  have z13 : A.length + 2 ≤ 16777216 := by omega
  have z14 : A.length + 2 + y.length ≤ 16777216 := by omega
  have q7 : ∀ S2, evS pk.pg (callD pk.pg 39) (.seq (.asg (.v 8) (.mlst (.cons (.tup (.cons (.bin .add (.bin .add (.bin .add (.var 3) (.var 5)) (.k (.str [32]))) (.var 6)) (.cons (.bin .add (.bi .len (.cons (.bin .add (.var 3) (.var 5)) .nil)) (.k (.int 1))) .nil))) (.cons (.tup (.cons (.bin .add (.bin .add (.k (.str [41])) (.var 5)) (.var 3)) (.cons (.k (.int 0)) .nil))) (.cons (.tup (.cons (.sl (.var 3) .no (.itr (.var 7))) (.cons (.var 7) .nil))) (.cons (.tup (.cons (.bin .add (.sl (.var 3) .no (.itr (.var 7))) (.k (.str [39, 32, 41]))) (.cons (.bin .add (.var 7) (.k (.int 2))) .nil))) .nil)))))) S2) (eC ns w T gap more pl A.length none none) (cup a b []) = evS pk.pg (callD pk.pg 39) S2 (eC ns w T gap more pl A.length (some (.ref 1)) none) (cup a b [[cW (((T ++ gap) ++ [32]) ++ more, (T ++ gap).length + 1), cW (([41] ++ gap) ++ T, 0), cW (A, A.length), cW (A ++ [39, 32, 41], A.length + 2)]]) := fun S2 => by
    simp [bnd, G.ret, rd, opt, eS, seqI, seqL, biop, bInt, bLen, bList, bAbs, binop, big, asg, asgs, fits, line, bIsi, isTy, bTuple, hp, z1, z2, z3, z3b, z5b, z4, z5, z6, cW]
  have q8 : ∀ S2, evS pk.pg (callD pk.pg 39) (.seq (.asg (.v 9) (.call 26 (.cons (.var 1) (.cons (.lst (.cons (.k (.str [65])) (.cons (.k (.str [35])) (.cons (.k (.str [97, 46, 98])) (.cons (.k (.str [35, 97])) (.cons (.k (.str [123])) (.cons (.k (.str [57, 95])) .nil))))))) .nil)))) S2) (eC ns w T gap more pl A.length (some (.ref 1)) none) (cup a b [[cW (((T ++ gap) ++ [32]) ++ more, (T ++ gap).length + 1), cW (([41] ++ gap) ++ T, 0), cW (A, A.length), cW (A ++ [39, 32, 41], A.length + 2)]]) = evS pk.pg (callD pk.pg 39) S2 (eC ns w T gap more pl A.length (some (.ref 1)) (some (.str bad))) (cup a1 b1 [[cW (((T ++ gap) ++ [32]) ++ more, (T ++ gap).length + 1), cW (([41] ++ gap) ++ T, 0), cW (A, A.length), cW (A ++ [39, 32, 41], A.length + 2)]]) := fun S2 => by
    have e1 : callD pk.pg (37 + 2) 26 [.ref 0, .lst [.str [65], .str [35], .str [97, 46, 98], .str [35, 97], .str [123], .str [57, 95]]] (cup a b [[cW (((T ++ gap) ++ [32]) ++ more, (T ++ gap).length + 1), cW (([41] ++ gap) ++ T, 0), cW (A, A.length), cW (A ++ [39, 32, 41], A.length + 2)]]) = .ok (.str bad) (cup a1 b1 [[cW (((T ++ gap) ++ [32]) ++ more, (T ++ gap).length + 1), cW (([41] ++ gap) ++ T, 0), cW (A, A.length), cW (A ++ [39, 32, 41], A.length + 2)]]) := e1
    generalize [cW (((T ++ gap) ++ [32]) ++ more, (T ++ gap).length + 1), cW (([41] ++ gap) ++ T, 0), cW (A, A.length), cW (A ++ [39, 32, 41], A.length + 2)] = cs at *
    simp [bnd, G.ret, rd, opt, eS, seqI, seqL, biop, bInt, bLen, bList, bAbs, binop, big, asg, asgs, fits, line, bIsi, isTy, bTuple, e1]
  generalize hc0 : cW (((T ++ gap) ++ [32]) ++ more, (T ++ gap).length + 1) = c0 at *
  generalize hc1 : cW (([41] ++ gap) ++ T, 0) = c1 at *
  generalize hc2 : cW (A, A.length) = c2 at *
  generalize hc3 : cW (A ++ [39, 32, 41], A.length + 2) = c3 at *
  have q9 : ∀ S2, evS pk.pg (callD pk.pg 39) (.seq (.expr (.meth .append (.var 8) (.cons (.tup (.cons (.bin .add (.bin .add (.bin .add (.bin .add (.sl (.var 3) .no (.itr (.var 7))) (.k (.str [32]))) (.var 9)) (.k (.str [32]))) (.sl (.var 3) (.itr (.var 7)) .no)) (.cons (.bin .add (.var 7) (.k (.int 1))) .nil))) .nil))) S2) (eC ns w T gap more pl A.length (some (.ref 1)) (some (.str bad))) (cup a1 b1 [[c0, c1, c2, c3]]) = evS pk.pg (callD pk.pg 39) S2 (eC ns w T gap more pl A.length (some (.ref 1)) (some (.str bad))) (cup a1 b1 [[c0, c1, c2, c3, cW ((((A ++ [32]) ++ bad) ++ [32]) ++ B, A.length + 1)]]) := fun S2 => by
    simp [bnd, G.ret, rd, opt, eS, seqI, seqL, biop, bInt, bLen, bList, bAbs, binop, big, asg, asgs, fits, line, bIsi, isTy, bTuple, hp, hs, Me.isL, meL, mApp, z7, z8, z9, z10, z8b, z9b, z9c, z10b, z10c, z11, z12, cW]
  have q10 : ∀ c4 S2, evS pk.pg (callD pk.pg 39) (.seq (.expr (.meth .append (.var 8) (.cons (.tup (.cons (.bin .add (.bin .add (.sl (.var 3) .no (.itr (.var 7))) (.k (.str [32, 34, 97, 92, 98, 34, 32]))) (.sl (.var 3) (.itr (.var 7)) .no)) (.cons (.bin .add (.var 7) (.k (.int 1))) .nil))) .nil))) S2) (eC ns w T gap more pl A.length (some (.ref 1)) (some (.str bad))) (cup a1 b1 [[c0, c1, c2, c3, c4]]) = evS pk.pg (callD pk.pg 39) S2 (eC ns w T gap more pl A.length (some (.ref 1)) (some (.str bad))) (cup a1 b1 [[c0, c1, c2, c3, c4, cW ((A ++ [32, 34, 97, 92, 98, 34, 32]) ++ B, A.length + 1)]]) := fun c4 S2 => by
    simp [bnd, G.ret, rd, opt, eS, seqI, seqL, biop, bInt, bLen, bList, bAbs, binop, big, asg, asgs, fits, line, bIsi, isTy, bTuple, hp, hs, Me.isL, meL, mApp, z7, z8, z9, z10, z8b, z9b, z9c, z10b, z10c, z11, z12, cW]
  rw [q7, q8, q9, q10]
  generalize hc4 : cW ((((A ++ [32]) ++ bad) ++ [32]) ++ B, A.length + 1) = c4 at *
  generalize hc5 : cW ((A ++ [32, 34, 97, 92, 98, 34, 32]) ++ B, A.length + 1) = c5 at *
  have q11 : ∀ S2, evS pk.pg (callD pk.pg 39) (.seq (.expr (.meth .append (.var 8) (.cons (.tup (.cons (.bin .add (.bin .add (.sl (.var 3) .no (.itr (.var 7))) (.k (.str [32, 34]))) (.call 26 (.cons (.var 1) (.cons (.lst (.cons (.k (.str [])) (.cons (.k (.str [97])) (.cons (.k (.str [92])) .nil)))) .nil)))) (.cons (.k (.int 0)) .nil))) .nil))) S2) (eC ns w T gap more pl A.length (some (.ref 1)) (some (.str bad))) (cup a1 b1 [[c0, c1, c2, c3, c4, c5]]) = evS pk.pg (callD pk.pg 39) S2 (eC ns w T gap more pl A.length (some (.ref 1)) (some (.str bad))) (cup a2 b2 [[c0, c1, c2, c3, c4, c5, .tup [.str ((A ++ [32, 34]) ++ y), .int 0]]]) := fun S2 => by
    have e2 : callD pk.pg (37 + 2) 26 [.ref 0, .lst [.str [], .str [97], .str [92]]] (cup a1 b1 [[c0, c1, c2, c3, c4, c5]]) = .ok (.str y) (cup a2 b2 [[c0, c1, c2, c3, c4, c5]]) := e2
    simp [bnd, G.ret, rd, opt, eS, seqI, seqL, biop, bInt, bLen, bList, bAbs, binop, big, asg, asgs, fits, line, bIsi, isTy, bTuple, hp, e2, Me.isL, meL, mApp, z13, z14]
  have q12 : ∀ S2, evS pk.pg (callD pk.pg 39) (.seq (.seti (.var 8) (.neg (.k (.int 1))) (.tup (.cons (.ix (.ix (.var 8) (.neg (.k (.int 1)))) (.k (.int 0))) (.cons (.bi .len (.cons (.ix (.ix (.var 8) (.neg (.k (.int 1)))) (.k (.int 0))) .nil)) .nil)))) S2) (eC ns w T gap more pl A.length (some (.ref 1)) (some (.str bad))) (cup a2 b2 [[c0, c1, c2, c3, c4, c5, .tup [.str ((A ++ [32, 34]) ++ y), .int 0]]]) = evS pk.pg (callD pk.pg 39) S2 (eC ns w T gap more pl A.length (some (.ref 1)) (some (.str bad))) (cup a2 b2 [[c0, c1, c2, c3, c4, c5, cW ((A ++ [32, 34]) ++ y, ((A ++ [32, 34]) ++ y).length)]]) := fun S2 => by
    have hl : ((A ++ [32, 34]) ++ y).length ≤ 16777216 := by simp only [List.length_append, List.length_cons, List.length_nil]; omega
    generalize (A ++ [32, 34]) ++ y = gg at *
    have hi : ∀ s, item (.tup [.str gg, .int 0]) (.int 0) s = some (.str gg) := fun s => item_t0 _ _ s
    have hl1 : ∀ s : G.ST, item (.ref 1) (.int (-1)) (cup a2 b2 [[c0, c1, c2, c3, c4, c5, .tup [.str gg, .int 0]]]) = some (.tup [.str gg, .int 0]) := fun s => rfl
    have hx : ixOf (-1) 7 = some 6 := rfl
    simp [bnd, G.ret, rd, opt, eS, seqI, seqL, biop, bInt, bLen, bList, bAbs, binop, big, asg, asgs, fits, line, bIsi, isTy, bTuple, hi, hl, cW, item, ixOf]
  rw [q11, q12]
  simp only [List.map_cons, List.map_nil, hc0, hc1, hc2, hc3, hc4, hc5]
end K02

set_option Elab.async false
set_option linter.all false
set_option maxRecDepth 100000
set_option maxHeartbeats 4000000
namespace K02
open G Q1
def prs1 : List (List Nat × Nat) := [([], 0), ([32, 32], 2), ([41], 0), ([40], 1), ([97, 32, 98], 2), ([39], 1), ([39, 41], 1), ([40, 97], 2), ([40, 41, 40, 41], 2), ([40, 97, 32, 39, 41], 4), ([39, 97, 39, 98], 2), ([35, 39, 32], 3)]
def prs : List (List Nat × Nat) := prs1 ++ [([34], 1), ([34, 97, 92], 3), ([34, 97, 92, 34], 4), ([40, 34, 97, 92, 110, 34, 41], 1), ([40, 65], 1), ([35, 32, 39, 97], 0), ([97, 35], 0), ([40, 97, 41, 41], 3), ([97, 32, 46, 32, 98], 2), ([39, 40, 97, 41, 32, 39, 98], 5)]
def dOld : List (List Nat) := [[49, 48, 48, 48, 48, 48, 48, 48, 48, 48, 48, 48, 49], [45, 49, 48, 48, 48, 48, 48, 48, 48, 48, 48, 48, 48, 49], rep 200 [57], rep 21 [120], [34] ++ rep 401 [97] ++ [34], rep 60 [40] ++ rep 61 [41] ++ [40], rep 201 [39] ++ [97], rep 201 [40], rep 61 [40] ++ rep 61 [41]]
def dNew : List (List Nat) := [[49, 48, 48, 48, 48, 48, 48, 48, 48, 48, 48, 48, 49], [45, 49, 48, 48, 48, 48, 48, 48, 48, 48, 48, 48, 48, 49], rep 200 [57], rep 21 [120], [34] ++ rep 401 [97] ++ [34], rep 60 [40] ++ [97] ++ rep 60 [41], rep 201 [39] ++ [97], rep 201 [40], rep 61 [40] ++ rep 61 [41]]
def dMore : List (List Nat) := [rep 60 [39] ++ [97], [40] ++ rep 1000 [49, 32] ++ [41], rep 201 [40] ++ [41, 41, 41, 32, 97], rep 201 [35, 39]]
def dAll : List (List Nat) := [[49, 48, 48, 48, 48, 48, 48, 48, 48, 48, 48, 48, 49], [45, 49, 48, 48, 48, 48, 48, 48, 48, 48, 48, 48, 48, 49], rep 200 [57], rep 21 [120], [34] ++ rep 401 [97] ++ [34], rep 60 [40] ++ [97] ++ rep 60 [41], rep 201 [39] ++ [97], rep 201 [40], rep 61 [40] ++ rep 61 [41], rep 60 [39] ++ [97], [40] ++ rep 1000 [49, 32] ++ [41], rep 201 [40] ++ [41, 41, 41, 32, 97], rep 201 [35, 39]]
def gAll : List (List Nat) := [rep 60 [40] ++ rep 60 [41], [49, 48, 48, 48, 48, 48, 48, 48, 48, 48, 48, 48, 48], rep 20 [120], [40] ++ rep 999 [49, 32] ++ [41], [34] ++ rep 400 [97] ++ [34], rep 59 [39] ++ [97], rep 300 [48] ++ [55]]
def deep1 : List Nat := rep 201 [40] ++ [65]
def deep2 : List Nat := [41, 32] ++ rep 21 [120]
def odds : List W := [.non, .lst [.int 1], .str [110, 105, 108], .tup [.str [97], .non], .int 1000000000001, .bl true]
theorem prs_ok : ∀ p ∈ prs, ans p.1 = some (.txt p.2) ∧ p.1.length ≤ 100 ∧ p.2 ≤ 100 := by decide +kernel
theorem d_0 : ans ([49, 48, 48, 48, 48, 48, 48, 48, 48, 48, 48, 48, 49]) = some .dat ∧ ([49, 48, 48, 48, 48, 48, 48, 48, 48, 48, 48, 48, 49]).length ≤ 3000 := by decide +kernel
theorem d_1 : ans ([45, 49, 48, 48, 48, 48, 48, 48, 48, 48, 48, 48, 48, 49]) = some .dat ∧ ([45, 49, 48, 48, 48, 48, 48, 48, 48, 48, 48, 48, 48, 49]).length ≤ 3000 := by decide +kernel
theorem d_2 : ans (rep 200 [57]) = some .dat ∧ (rep 200 [57]).length ≤ 3000 := by decide +kernel
theorem d_3 : ans (rep 21 [120]) = some .dat ∧ (rep 21 [120]).length ≤ 3000 := by decide +kernel
theorem d_4 : ans ([34] ++ rep 401 [97] ++ [34]) = some .dat ∧ ([34] ++ rep 401 [97] ++ [34]).length ≤ 3000 := by decide +kernel
theorem d_5 : ans (rep 60 [40] ++ [97] ++ rep 60 [41]) = some .dat ∧ (rep 60 [40] ++ [97] ++ rep 60 [41]).length ≤ 3000 := by decide +kernel
theorem d_6 : ans (rep 201 [39] ++ [97]) = some .dat ∧ (rep 201 [39] ++ [97]).length ≤ 3000 := by decide +kernel
theorem d_7 : ans (rep 201 [40]) = some .dat ∧ (rep 201 [40]).length ≤ 3000 := by decide +kernel
theorem d_8 : ans (rep 61 [40] ++ rep 61 [41]) = some .dat ∧ (rep 61 [40] ++ rep 61 [41]).length ≤ 3000 := by decide +kernel
theorem d_9 : ans (rep 60 [39] ++ [97]) = some .dat ∧ (rep 60 [39] ++ [97]).length ≤ 3000 := by decide +kernel
theorem d_10 : ans ([40] ++ rep 1000 [49, 32] ++ [41]) = some .dat ∧ ([40] ++ rep 1000 [49, 32] ++ [41]).length ≤ 3000 := by decide +kernel
theorem d_11 : ans (rep 201 [40] ++ [41, 41, 41, 32, 97]) = some .dat ∧ (rep 201 [40] ++ [41, 41, 41, 32, 97]).length ≤ 3000 := by decide +kernel
theorem d_12 : ans (rep 201 [35, 39]) = some .dat ∧ (rep 201 [35, 39]).length ≤ 3000 := by decide +kernel
theorem dAll_ok : AllP (fun X => ans X = some .dat ∧ X.length ≤ 3000) dAll := ⟨d_0, d_1, d_2, d_3, d_4, d_5, d_6, d_7, d_8, d_9, d_10, d_11, d_12, trivial⟩
theorem g_0 : ans (rep 60 [40] ++ rep 60 [41]) = some .good ∧ (rep 60 [40] ++ rep 60 [41]).length ≤ 3000 := by decide +kernel
theorem g_1 : ans ([49, 48, 48, 48, 48, 48, 48, 48, 48, 48, 48, 48, 48]) = some .good ∧ ([49, 48, 48, 48, 48, 48, 48, 48, 48, 48, 48, 48, 48]).length ≤ 3000 := by decide +kernel
theorem g_2 : ans (rep 20 [120]) = some .good ∧ (rep 20 [120]).length ≤ 3000 := by decide +kernel
theorem g_3 : ans ([40] ++ rep 999 [49, 32] ++ [41]) = some .good ∧ ([40] ++ rep 999 [49, 32] ++ [41]).length ≤ 3000 := by decide +kernel
theorem g_4 : ans ([34] ++ rep 400 [97] ++ [34]) = some .good ∧ ([34] ++ rep 400 [97] ++ [34]).length ≤ 3000 := by decide +kernel
theorem g_5 : ans (rep 59 [39] ++ [97]) = some .good ∧ (rep 59 [39] ++ [97]).length ≤ 3000 := by decide +kernel
theorem g_6 : ans (rep 300 [48] ++ [55]) = some .good ∧ (rep 300 [48] ++ [55]).length ≤ 3000 := by decide +kernel
theorem gAll_ok : AllP (fun X => ans X = some .good ∧ X.length ≤ 3000) gAll := ⟨g_0, g_1, g_2, g_3, g_4, g_5, g_6, trivial⟩
theorem deep_1 : ans deep1 = some (.txt 201) ∧ deep1.length ≤ 300 := by decide +kernel
theorem deep_2 : ans deep2 = some (.txt 0) ∧ deep2.length ≤ 300 := by decide +kernel
end K02

set_option Elab.async false
set_option linter.all false
set_option maxRecDepth 100000
set_option maxHeartbeats 4000000
namespace K02
open G Q1
theorem pre1' (l : List Nat) (s : G.ST) (hl : l.length ≤ 16777216) : slice (.str l) none (some 1) s = some (.str (l.take 1)) := pre1 l s hl
theorem ne_lst0 {P : Pg} {call : Nat → List W → M W} {e : E} {env : Env} {s : G.ST} (h : evE P call e env s = .ok (.lst []) s) : evE P call (.cmp .ne e (.lst .nil)) env s = .ok (.bl false) s := by
  have hn : cmpop .ne (soft (.lst [])) (soft (.lst [])) s = some false := rfl
  have h2 : evE P call (.lst .nil) env s = .ok (.lst []) s := by
    rw [xE_lst]
    simp [bnd, G.ret, rd, opt, eS, seqI, seqL, biop, bInt, bLen, bList, bAbs, binop, big, asg, asgs, fits, line, bIsi, isTy, bTuple, G.fits]
  rw [xE_cmp]
  simp only [G.bnd, h, h2, G.rd, hn]
  rfl
/-- the spoilt texts are refused -/
theorem st13 (ns : List Int) (w pl : W) (T gap more bad : List Nat) (at_ : Nat) (a b : Int) (Cs : List (List Nat × Nat)) (hT : T.length ≤ 200000) (hC : ∀ c ∈ Cs, Bad c.1 c.2 ∧ c.2 ≤ 1000000) (hl : Cs.length ≤ 100) (S2 : G.S) :
    evS pk.pg (callD pk.pg 39) (.seq (.ife (.and (.cmp .eq (.sl (.var 3) .no (.itr (.k (.int 1)))) (.k (.str [40]))) (.cmp .ne (.lc (.cons (.v 10) (.cons (.v 18) .nil)) (.itr (.var 8)) (.cons (.cmp .ne (.clo 0 (.call 23 (.cons (.var 10) .nil))) (.bin .add (.k (.str [116, 101, 120, 116, 32])) (.bi .str (.cons (.var 18) .nil)))) .nil) (.k (.int 1)) [10, 18]) (.lst .nil))) (.seq (.rt (.k (.bl false))) .nil) .nil) S2) (eC ns w T gap more pl at_ (some (.ref 1)) (some (.str bad))) (cup a b [Cs.map cW]) = evS pk.pg (callD pk.pg 39) S2 (eC ns w T gap more pl at_ (some (.ref 1)) (some (.str bad))) (cup a b [Cs.map cW]) := by
  have h1 : evE pk.pg (callD pk.pg 39) (.cmp .eq (.sl (.var 3) .no (.itr (.k (.int 1)))) (.k (.str [40]))) (eC ns w T gap more pl at_ (some (.ref 1)) (some (.str bad))) (cup a b [Cs.map cW]) = .ok (.bl (T.take 1 == [40])) (cup a b [Cs.map cW]) := by
    have := pre1' T (cup a b [Cs.map cW]) (by omega)
    simp [bnd, G.ret, rd, opt, eS, seqI, seqL, biop, bInt, bLen, bList, bAbs, binop, big, asg, asgs, fits, line, bIsi, isTy, bTuple, this, eq_str]
  have h2 : evE pk.pg (callD pk.pg 39) (.lc (.cons (.v 10) (.cons (.v 18) .nil)) (.itr (.var 8)) (.cons (.cmp .ne (.clo 0 (.call 23 (.cons (.var 10) .nil))) (.bin .add (.k (.str [116, 101, 120, 116, 32])) (.bi .str (.cons (.var 18) .nil)))) .nil) (.k (.int 1)) [10, 18]) (eC ns w T gap more pl at_ (some (.ref 1)) (some (.str bad))) (cup a b [Cs.map cW]) = .ok (.lst []) (cup a b [Cs.map cW]) := by
    refine lc_live (n := 1) (xs := Cs.map cW) (by simp [bnd, G.ret, rd, opt, eS, seqI, seqL, biop, bInt, bLen, bList, bAbs, binop, big, asg, asgs, fits, line, bIsi, isTy, bTuple, srcOf]) rfl (fun x hx => ?_) (by
      rw [List.length_map]
      show Cs.length < 1000000
      omega)
    obtain ⟨c, hc, rfl⟩ := List.mem_map.mp hx
    obtain ⟨b1, b2⟩ := hC c hc
    refine ⟨[some (.scr ns), some (.ref 0), some w, some (.str T), some pl, some (.str gap), some (.str more), some (.int (at_ : Nat)), some (.ref 1), some (.str bad), some (.str c.1), N0, N0, N0, N0, N0, N0, N0, some (.int (c.2 : Nat))], by simp [bnd, G.ret, rd, opt, eS, seqI, seqL, biop, bInt, bLen, bList, bAbs, binop, big, asg, asgs, fits, line, bIsi, isTy, bTuple, wipes, cW], ?_⟩
    exact cmp_no (clo_bad (i := 10) rfl b1 b2) (due_ev (i := 18) rfl b2)
  have h3 := and_ev h1 (ne_lst0 h2)
  rw [Bool.and_false] at h3
  rw [xS_seq, ife_no h3]
def tx0 : List Nat := [116, 101, 120, 116, 32, 48]
abbrev X2 : List W := [.str tx0, .str tx0]
abbrev eF (e0 e1 e2 e3 e4 e5 e6 e7 e8 e9 e10 e11 e12 e13 e14 e15 e16 e17 e18 : Option W) : Env := [e0, e1, e2, e3, e4, e5, e6, e7, e8, e9, e10, e11, e12, e13, e14, e15, e16, e17, e18]
section
variable (e0 e1 e2 e3 e4 e5 e6 e7 e8 e9 : Option W) (a b : Int) (cs : List W)
abbrev s6 : G.ST := [[.int a, .int b], cs, X2, X2, X2, X2]
theorem st14 : evS pk.pg (callD pk.pg 39) (.forr (.v 10) (.itr (.tup (.cons (.k .non) (.cons (.k (.int 5)) (.cons (.lst (.cons (.k (.str [120])) .nil)) (.cons (.tup (.cons (.k (.str [97])) .nil)) .nil)))))) (.seq (.asg (.v 11) (.mlst (.cons (.clo 0 (.call 23 (.cons (.var 10) .nil))) .nil))) (.seq (.expr (.meth .append (.var 11) (.cons (.clo 0 (.call 22 (.cons (.var 10) .nil))) .nil))) (.seq (.ife (.cmp .ne (.var 11) (.bin .mul (.lst (.cons (.k (.str [116, 101, 120, 116, 32, 48])) .nil)) (.k (.int 2)))) (.seq (.rt (.k (.bl false))) .nil) .nil) .nil)))) (eF e0 e1 e2 e3 e4 e5 e6 e7 e8 e9 none none none none none none none none none) [[.int a, .int b], cs] = .ok .nx (eF e0 e1 e2 e3 e4 e5 e6 e7 e8 e9 (some (.tup [.str [97]])) (some (.ref 5)) none none none none none none none) (s6 a b cs) := by kernel_rfl
abbrev eG (e10 e11 e12 e13 e14 e15 e16 : Option W) : Env := eF e0 e1 e2 e3 e4 e5 e6 e7 e8 e9 e10 e11 e12 e13 e14 e15 e16 none none
variable (e10 e11 : Option W)
theorem st15 (s : G.ST) : evS pk.pg (callD pk.pg 39) (.asg (.v 12) (.lst (.cons (.tup (.cons (.k (.str [])) (.cons (.k (.int 0)) .nil))) (.cons (.tup (.cons (.k (.str [32, 32])) (.cons (.k (.int 2)) .nil))) (.cons (.tup (.cons (.k (.str [41])) (.cons (.k (.int 0)) .nil))) (.cons (.tup (.cons (.k (.str [40])) (.cons (.k (.int 1)) .nil))) (.cons (.tup (.cons (.k (.str [97, 32, 98])) (.cons (.k (.int 2)) .nil))) (.cons (.tup (.cons (.k (.str [39])) (.cons (.k (.int 1)) .nil))) (.cons (.tup (.cons (.k (.str [39, 41])) (.cons (.k (.int 1)) .nil))) (.cons (.tup (.cons (.k (.str [40, 97])) (.cons (.k (.int 2)) .nil))) (.cons (.tup (.cons (.k (.str [40, 41, 40, 41])) (.cons (.k (.int 2)) .nil))) (.cons (.tup (.cons (.k (.str [40, 97, 32, 39, 41])) (.cons (.k (.int 4)) .nil))) (.cons (.tup (.cons (.k (.str [39, 97, 39, 98])) (.cons (.k (.int 2)) .nil))) (.cons (.tup (.cons (.k (.str [35, 39, 32])) (.cons (.k (.int 3)) .nil))) .nil)))))))))))))) (eG e0 e1 e2 e3 e4 e5 e6 e7 e8 e9 e10 e11 none none none none none) s = .ok .nx (eG e0 e1 e2 e3 e4 e5 e6 e7 e8 e9 e10 e11 (some (.lst (prs1.map cW))) none none none none) s := by kernel_rfl
theorem st16 (s : G.ST) : evS pk.pg (callD pk.pg 39) (.asg (.v 12) (.bin .add (.var 12) (.lst (.cons (.tup (.cons (.k (.str [34])) (.cons (.k (.int 1)) .nil))) (.cons (.tup (.cons (.k (.str [34, 97, 92])) (.cons (.k (.int 3)) .nil))) (.cons (.tup (.cons (.k (.str [34, 97, 92, 34])) (.cons (.k (.int 4)) .nil))) (.cons (.tup (.cons (.k (.str [40, 34, 97, 92, 110, 34, 41])) (.cons (.k (.int 1)) .nil))) (.cons (.tup (.cons (.k (.str [40, 65])) (.cons (.k (.int 1)) .nil))) (.cons (.tup (.cons (.k (.str [35, 32, 39, 97])) (.cons (.k (.int 0)) .nil))) (.cons (.tup (.cons (.k (.str [97, 35])) (.cons (.k (.int 0)) .nil))) (.cons (.tup (.cons (.k (.str [40, 97, 41, 41])) (.cons (.k (.int 3)) .nil))) (.cons (.tup (.cons (.k (.str [97, 32, 46, 32, 98])) (.cons (.k (.int 2)) .nil))) (.cons (.tup (.cons (.k (.str [39, 40, 97, 41, 32, 39, 98])) (.cons (.k (.int 5)) .nil))) .nil))))))))))))) (eG e0 e1 e2 e3 e4 e5 e6 e7 e8 e9 e10 e11 (some (.lst (prs1.map cW))) none none none none) s = .ok .nx (eG e0 e1 e2 e3 e4 e5 e6 e7 e8 e9 e10 e11 (some (.lst (prs.map cW))) none none none none) s := by kernel_rfl
theorem st17 (s : G.ST) : evS pk.pg (callD pk.pg 39) (.ife (.cmp .ne (.lc (.cons (.v 3) (.cons (.v 7) .nil)) (.itr (.var 12)) (.cons (.cmp .ne (.clo 0 (.call 23 (.cons (.var 3) .nil))) (.bin .add (.k (.str [116, 101, 120, 116, 32])) (.bi .str (.cons (.var 7) .nil)))) .nil) (.var 3) [3, 7]) (.lst .nil)) (.seq (.rt (.k (.bl false))) .nil) .nil) (eG e0 e1 e2 e3 e4 e5 e6 e7 e8 e9 e10 e11 (some (.lst (prs.map cW))) none none none none) s = .ok .nx (eG e0 e1 e2 e3 e4 e5 e6 e7 e8 e9 e10 e11 (some (.lst (prs.map cW))) none none none none) s := by
  refine ife_no (ne_lst0 (lc_none (xs := prs.map cW) (by simp [bnd, G.ret, rd, opt, eS, seqI, seqL, biop, bInt, bLen, bList, bAbs, binop, big, asg, asgs, fits, line, bIsi, isTy, bTuple, srcOf]) (fun x hx => ?_) (by rw [List.length_map]; decide)))
  obtain ⟨c, hc, rfl⟩ := List.mem_map.mp hx
  obtain ⟨b1, b2, b3⟩ := prs_ok c hc
  refine ⟨[e0, e1, e2, some (.str c.1), e4, e5, e6, some (.int (c.2 : Nat)), e8, e9, e10, e11, some (.lst (prs.map cW)), none, none, none, none, none, none], by simp [bnd, G.ret, rd, opt, eS, seqI, seqL, biop, bInt, bLen, bList, bAbs, binop, big, asg, asgs, fits, line, bIsi, isTy, bTuple, wipes, cW], ?_⟩
  exact cmp_no (clo_ans (i := 3) (r := .txt c.2) rfl (by omega) b1 (by simp [bnd, G.ret, rd, opt, eS, seqI, seqL, biop, bInt, bLen, bList, bAbs, binop, big, asg, asgs, fits, line, bIsi, isTy, bTuple, small]; omega)) (due_ev (i := 7) rfl (by omega))
variable (e12 : Option W)
abbrev s7 : G.ST := [[.int a, .int b], cs, X2, X2, X2, X2, dOld.map .str]
abbrev s7b : G.ST := [[.int a, .int b], cs, X2, X2, X2, X2, dNew.map .str]
abbrev s8 : G.ST := [[.int a, .int b], cs, X2, X2, X2, X2, dNew.map .str, dMore.map .str]
theorem st18 : evS pk.pg (callD pk.pg 39) (.asg (.v 13) (.mlst (.cons (.k (.str [49, 48, 48, 48, 48, 48, 48, 48, 48, 48, 48, 48, 49])) (.cons (.k (.str [45, 49, 48, 48, 48, 48, 48, 48, 48, 48, 48, 48, 48, 49])) (.cons (.bin .mul (.k (.str [57])) (.k (.int 200))) (.cons (.bin .mul (.k (.str [120])) (.k (.int 21))) (.cons (.bin .add (.bin .add (.k (.str [34])) (.bin .mul (.k (.str [97])) (.k (.int 401)))) (.k (.str [34]))) (.cons (.bin .add (.bin .add (.bin .mul (.k (.str [40])) (.k (.int 60))) (.bin .mul (.k (.str [41])) (.k (.int 61)))) (.k (.str [40]))) (.cons (.bin .add (.bin .mul (.k (.str [39])) (.k (.int 201))) (.k (.str [97]))) (.cons (.bin .mul (.k (.str [40])) (.k (.int 201))) (.cons (.bin .add (.bin .mul (.k (.str [40])) (.k (.int 61))) (.bin .mul (.k (.str [41])) (.k (.int 61)))) .nil))))))))))) (eG e0 e1 e2 e3 e4 e5 e6 e7 e8 e9 e10 e11 e12 none none none none) (s6 a b cs) = .ok .nx (eG e0 e1 e2 e3 e4 e5 e6 e7 e8 e9 e10 e11 e12 (some (.ref 6)) none none none) (s7 a b cs) := by kernel_rfl
theorem st19 : evS pk.pg (callD pk.pg 39) (.seti (.var 13) (.k (.int 5)) (.bin .add (.bin .add (.bin .mul (.k (.str [40])) (.k (.int 60))) (.k (.str [97]))) (.bin .mul (.k (.str [41])) (.k (.int 60))))) (eG e0 e1 e2 e3 e4 e5 e6 e7 e8 e9 e10 e11 e12 (some (.ref 6)) none none none) (s7 a b cs) = .ok .nx (eG e0 e1 e2 e3 e4 e5 e6 e7 e8 e9 e10 e11 e12 (some (.ref 6)) none none none) (s7b a b cs) := by kernel_rfl
theorem st20 : evS pk.pg (callD pk.pg 39) (.asg (.v 13) (.bin .add (.var 13) (.mlst (.cons (.bin .add (.bin .mul (.k (.str [39])) (.k (.int 60))) (.k (.str [97]))) (.cons (.bin .add (.bin .add (.k (.str [40])) (.bin .mul (.k (.str [49, 32])) (.k (.int 1000)))) (.k (.str [41]))) (.cons (.bin .add (.bin .mul (.k (.str [40])) (.k (.int 201))) (.k (.str [41, 41, 41, 32, 97]))) (.cons (.bin .mul (.k (.str [35, 39])) (.k (.int 201))) .nil))))))) (eG e0 e1 e2 e3 e4 e5 e6 e7 e8 e9 e10 e11 e12 (some (.ref 6)) none none none) (s7b a b cs) = .ok .nx (eG e0 e1 e2 e3 e4 e5 e6 e7 e8 e9 e10 e11 e12 (some (.lst (dAll.map .str))) none none none) (s8 a b cs) := by kernel_rfl
theorem AllP_get {α : Type} {p : α → Prop} {l : List α} (h : AllP p l) : ∀ x ∈ l, p x := fun x hx => AllP.get h x hx
theorem st21 (s : G.ST) : evS pk.pg (callD pk.pg 39) (.ife (.cmp .ne (.lc (.v 3) (.itr (.var 13)) (.cons (.cmp .ne (.clo 0 (.call 23 (.cons (.var 3) .nil))) (.k (.str [100, 97, 116, 117, 109]))) .nil) (.var 3) [3]) (.lst .nil)) (.seq (.rt (.k (.bl false))) .nil) .nil) (eG e0 e1 e2 e3 e4 e5 e6 e7 e8 e9 e10 e11 e12 (some (.lst (dAll.map .str))) none none none) s = .ok .nx (eG e0 e1 e2 e3 e4 e5 e6 e7 e8 e9 e10 e11 e12 (some (.lst (dAll.map .str))) none none none) s := by
  refine ife_no (ne_lst0 (lc_none (xs := dAll.map .str) (by simp [bnd, G.ret, rd, opt, eS, seqI, seqL, biop, bInt, bLen, bList, bAbs, binop, big, asg, asgs, fits, line, bIsi, isTy, bTuple, srcOf]) (fun x hx => ?_) (by rw [List.length_map]; decide)))
  obtain ⟨X, hc, rfl⟩ := List.mem_map.mp hx
  obtain ⟨b1, b2⟩ := AllP_get dAll_ok X hc
  refine ⟨[e0, e1, e2, some (.str X), e4, e5, e6, e7, e8, e9, e10, e11, e12, some (.lst (dAll.map .str)), none, none, none, none, none], by simp [bnd, G.ret, rd, opt, eS, seqI, seqL, biop, bInt, bLen, bList, bAbs, binop, big, asg, asgs, fits, line, bIsi, isTy, bTuple, wipes], ?_⟩
  exact cmp_no (clo_ans (i := 3) (r := .dat) rfl (by omega) b1 rfl) (by rw [xE_k]; rfl)
variable (e13 : Option W)
theorem st22 (s : G.ST) : evS pk.pg (callD pk.pg 39) (.asg (.v 14) (.lst (.cons (.bin .add (.bin .mul (.k (.str [40])) (.k (.int 60))) (.bin .mul (.k (.str [41])) (.k (.int 60)))) (.cons (.k (.str [49, 48, 48, 48, 48, 48, 48, 48, 48, 48, 48, 48, 48])) (.cons (.bin .mul (.k (.str [120])) (.k (.int 20))) (.cons (.bin .add (.bin .add (.k (.str [40])) (.bin .mul (.k (.str [49, 32])) (.k (.int 999)))) (.k (.str [41]))) (.cons (.bin .add (.bin .add (.k (.str [34])) (.bin .mul (.k (.str [97])) (.k (.int 400)))) (.k (.str [34]))) (.cons (.bin .add (.bin .mul (.k (.str [39])) (.k (.int 59))) (.k (.str [97]))) (.cons (.bin .add (.bin .mul (.k (.str [48])) (.k (.int 300))) (.k (.str [55]))) .nil))))))))) (eG e0 e1 e2 e3 e4 e5 e6 e7 e8 e9 e10 e11 e12 e13 none none none) s = .ok .nx (eG e0 e1 e2 e3 e4 e5 e6 e7 e8 e9 e10 e11 e12 e13 (some (.lst (gAll.map .str))) none none) s := by kernel_rfl
theorem st23 (s : G.ST) : evS pk.pg (callD pk.pg 39) (.ife (.cmp .ne (.lc (.v 3) (.itr (.var 14)) (.cons (.cmp .ne (.clo 0 (.call 23 (.cons (.var 3) .nil))) (.k (.str []))) .nil) (.var 3) [3]) (.lst .nil)) (.seq (.rt (.k (.bl false))) .nil) .nil) (eG e0 e1 e2 e3 e4 e5 e6 e7 e8 e9 e10 e11 e12 e13 (some (.lst (gAll.map .str))) none none) s = .ok .nx (eG e0 e1 e2 e3 e4 e5 e6 e7 e8 e9 e10 e11 e12 e13 (some (.lst (gAll.map .str))) none none) s := by
  refine ife_no (ne_lst0 (lc_none (xs := gAll.map .str) (by simp [bnd, G.ret, rd, opt, eS, seqI, seqL, biop, bInt, bLen, bList, bAbs, binop, big, asg, asgs, fits, line, bIsi, isTy, bTuple, srcOf]) (fun x hx => ?_) (by rw [List.length_map]; decide)))
  obtain ⟨X, hc, rfl⟩ := List.mem_map.mp hx
  obtain ⟨b1, b2⟩ := AllP_get gAll_ok X hc
  refine ⟨[e0, e1, e2, some (.str X), e4, e5, e6, e7, e8, e9, e10, e11, e12, e13, some (.lst (gAll.map .str)), none, none, none, none], by simp [bnd, G.ret, rd, opt, eS, seqI, seqL, biop, bInt, bLen, bList, bAbs, binop, big, asg, asgs, fits, line, bIsi, isTy, bTuple, wipes], ?_⟩
  exact cmp_no (clo_ans (i := 3) (r := .good) rfl (by omega) b1 rfl) (by rw [xE_k]; rfl)
end
theorem clo_exp {X : List Nat} {r : Ans} {e : E} {env : Env} {s : G.ST} (he : ∀ call, evE pk.pg call e env s = .ok (.str X) s) (hl : X.length ≤ 200000) (h : ans X = some r) (hs : small r = true) : evE pk.pg (callD pk.pg 39) (.clo 0 (.call 23 (.cons e .nil))) env s = .ok (.str (word r)) s := by
  have ev : evE pk.pg (callD pk.pg 37) (.call 23 (.cons e .nil)) env s = callD pk.pg 37 23 [.str X] s := by
    rw [xE_call, xA_cons, xA_nil]
    simp only [G.bnd, he, G.ret]
  rcases read_ans 31 X r s hl h with ⟨rfl, w, q⟩ | ⟨rfl, q⟩ | ⟨e, rfl, q⟩
  · exact clo_good (D := 37) (ev.trans q)
  · exact clo_datum (D := 37) (ev.trans q)
  · have : e ≤ 1000000 := by simpa [bnd, G.ret, rd, opt, eS, seqI, seqL, biop, bInt, bLen, bList, bAbs, binop, big, asg, asgs, fits, line, bIsi, isTy, bTuple, small] using hs
    exact clo_text (D := 37) (ev.trans q) (by omega) (by omega)
section
variable (e0 e1 e2 e3 e4 e5 e6 e7 e8 e9 e10 e11 e12 e13 e14 : Option W) (a b : Int) (cs : List W)
def w201 : List Nat := [116, 101, 120, 116, 32, 50, 48, 49]
abbrev s9 : G.ST := [[.int a, .int b], cs, X2, X2, X2, X2, dNew.map .str, dMore.map .str, [.str w201]]
abbrev s10 : G.ST := [[.int a, .int b], cs, X2, X2, X2, X2, dNew.map .str, dMore.map .str, [.str w201, .str tx0]]
theorem st24 : evS pk.pg (callD pk.pg 39) (.asg (.v 15) (.mlst (.cons (.clo 0 (.call 23 (.cons (.bin .add (.bin .mul (.k (.str [40])) (.k (.int 201))) (.k (.str [65]))) .nil))) .nil))) (eG e0 e1 e2 e3 e4 e5 e6 e7 e8 e9 e10 e11 e12 e13 e14 none none) (s8 a b cs) = .ok .nx (eG e0 e1 e2 e3 e4 e5 e6 e7 e8 e9 e10 e11 e12 e13 e14 (some (.ref 8)) none) (s9 a b cs) := by
  have hx : ∀ call s, evE pk.pg call (.bin .add (.bin .mul (.k (.str [40])) (.k (.int 201))) (.k (.str [65]))) (eG e0 e1 e2 e3 e4 e5 e6 e7 e8 e9 e10 e11 e12 e13 e14 none none) s = .ok (.str deep1) s := fun call s => by kernel_rfl
  have h := clo_exp (s := s8 a b cs) (fun call => hx call _) (by have := deep_1.2; omega) deep_1.1 (by decide)
  have hw : word (.txt 201) = w201 := by kernel_rfl
  rw [hw] at h
  generalize hdn : dNew.map W.str = dn at *
  generalize hdm : dMore.map W.str = dm at *
  simp [bnd, G.ret, rd, opt, eS, seqI, seqL, biop, bInt, bLen, bList, bAbs, binop, big, asg, asgs, fits, line, bIsi, isTy, bTuple, h]
theorem st25 : evS pk.pg (callD pk.pg 39) (.expr (.meth .append (.var 15) (.cons (.clo 0 (.call 23 (.cons (.bin .add (.k (.str [41, 32])) (.bin .mul (.k (.str [120])) (.k (.int 21)))) .nil))) .nil))) (eG e0 e1 e2 e3 e4 e5 e6 e7 e8 e9 e10 e11 e12 e13 e14 (some (.ref 8)) none) (s9 a b cs) = .ok .nx (eG e0 e1 e2 e3 e4 e5 e6 e7 e8 e9 e10 e11 e12 e13 e14 (some (.ref 8)) none) (s10 a b cs) := by
  have hx : ∀ call s, evE pk.pg call (.bin .add (.k (.str [41, 32])) (.bin .mul (.k (.str [120])) (.k (.int 21)))) (eG e0 e1 e2 e3 e4 e5 e6 e7 e8 e9 e10 e11 e12 e13 e14 (some (.ref 8)) none) s = .ok (.str deep2) s := fun call s => by kernel_rfl
  have h := clo_exp (s := s9 a b cs) (fun call => hx call _) (by have := deep_2.2; omega) deep_2.1 (by decide)
  have hw : word (.txt 0) = tx0 := by kernel_rfl
  rw [hw] at h
  generalize hdn : dNew.map W.str = dn at *
  generalize hdm : dMore.map W.str = dm at *
  simp [bnd, G.ret, rd, opt, eS, seqI, seqL, biop, bInt, bLen, bList, bAbs, binop, big, asg, asgs, fits, line, bIsi, isTy, bTuple, h, Me.isL, meL, mApp]
theorem st26 (s : G.ST) : evS pk.pg (callD pk.pg 39) (.asg (.v 16) (.lst (.cons (.k .non) (.cons (.lst (.cons (.k (.int 1)) .nil)) (.cons (.k (.str [110, 105, 108])) (.cons (.tup (.cons (.k (.str [97])) (.cons (.k .non) .nil))) (.cons (.bin .add (.bin .pow (.k (.int 10)) (.k (.int 12))) (.k (.int 1))) (.cons (.k (.bl true)) .nil)))))))) (eG e0 e1 e2 e3 e4 e5 e6 e7 e8 e9 e10 e11 e12 e13 e14 (some (.ref 8)) none) s = .ok .nx (eG e0 e1 e2 e3 e4 e5 e6 e7 e8 e9 e10 e11 e12 e13 e14 (some (.ref 8)) (some (.lst odds))) s := by kernel_rfl
def rtOf : G.RS → Option (W × G.ST)
  | .ok (.rt w) _ s => some (w, s)
  | _ => none
theorem rtOf_some {r : G.RS} {w : W} {s : G.ST} (h : rtOf r = some (w, s)) : ∃ env, r = .ok (.rt w) env s := by
  unfold rtOf at h
  split at h
  · cases h; exact ⟨_, rfl⟩
  · cases h
theorem st27 (dn dm : List W) : rtOf (evS pk.pg (callD pk.pg 39) (.rt (.and (.cmp .eq (.var 15) (.lst (.cons (.k (.str [116, 101, 120, 116, 32, 50, 48, 49])) (.cons (.k (.str [116, 101, 120, 116, 32, 48])) .nil)))) (.cmp .eq (.lc (.v 10) (.itr (.var 16)) (.cons (.cmp .ne (.clo 0 (.call 21 (.cons (.var 10) .nil))) (.k (.str [100, 97, 116, 117, 109]))) .nil) (.var 10) [10]) (.lst .nil)))) (eG e0 e1 e2 e3 e4 e5 e6 e7 e8 e9 e10 e11 e12 e13 e14 (some (.ref 8)) (some (.lst odds))) [[.int a, .int b], cs, X2, X2, X2, X2, dn, dm, [.str w201, .str tx0]]) = some (.bl true, [[.int a, .int b], cs, X2, X2, X2, X2, dn, dm, [.str w201, .str tx0]]) := by kernel_rfl
end
end K02

set_option Elab.async false
set_option linter.all false
set_option maxRecDepth 100000
set_option maxHeartbeats 4000000
namespace K02
open G Q1
theorem seq_of {P : Pg} {call : Nat → List W → M W} {a b : G.S} {env env' : Env} {s s' : G.ST} {r : G.RS} (h : evS P call a env s = .ok .nx env' s') (k : evS P call b env' s' = r) : evS P call (.seq a b) env s = r := by
  rw [xS_seq, h]
  exact k
theorem seq_of_rt {P : Pg} {call : Nat → List W → M W} {a b : G.S} {env env' : Env} {s s' : G.ST} {w : W} (h : evS P call a env s = .ok (.rt w) env' s') : evS P call (.seq a b) env s = .ok (.rt w) env' s' := by
  rw [xS_seq, h]
section
variable (e0 e1 e2 e3 e4 e5 e6 e7 e8 e9 : Option W) (a b : Int) (cs : List W)
def T14 : G.S := (.forr (.v 10) (.itr (.tup (.cons (.k .non) (.cons (.k (.int 5)) (.cons (.lst (.cons (.k (.str [120])) .nil)) (.cons (.tup (.cons (.k (.str [97])) .nil)) .nil)))))) (.seq (.asg (.v 11) (.mlst (.cons (.clo 0 (.call 23 (.cons (.var 10) .nil))) .nil))) (.seq (.expr (.meth .append (.var 11) (.cons (.clo 0 (.call 22 (.cons (.var 10) .nil))) .nil))) (.seq (.ife (.cmp .ne (.var 11) (.bin .mul (.lst (.cons (.k (.str [116, 101, 120, 116, 32, 48])) .nil)) (.k (.int 2)))) (.seq (.rt (.k (.bl false))) .nil) .nil) .nil))))
def T15 : G.S := (.asg (.v 12) (.lst (.cons (.tup (.cons (.k (.str [])) (.cons (.k (.int 0)) .nil))) (.cons (.tup (.cons (.k (.str [32, 32])) (.cons (.k (.int 2)) .nil))) (.cons (.tup (.cons (.k (.str [41])) (.cons (.k (.int 0)) .nil))) (.cons (.tup (.cons (.k (.str [40])) (.cons (.k (.int 1)) .nil))) (.cons (.tup (.cons (.k (.str [97, 32, 98])) (.cons (.k (.int 2)) .nil))) (.cons (.tup (.cons (.k (.str [39])) (.cons (.k (.int 1)) .nil))) (.cons (.tup (.cons (.k (.str [39, 41])) (.cons (.k (.int 1)) .nil))) (.cons (.tup (.cons (.k (.str [40, 97])) (.cons (.k (.int 2)) .nil))) (.cons (.tup (.cons (.k (.str [40, 41, 40, 41])) (.cons (.k (.int 2)) .nil))) (.cons (.tup (.cons (.k (.str [40, 97, 32, 39, 41])) (.cons (.k (.int 4)) .nil))) (.cons (.tup (.cons (.k (.str [39, 97, 39, 98])) (.cons (.k (.int 2)) .nil))) (.cons (.tup (.cons (.k (.str [35, 39, 32])) (.cons (.k (.int 3)) .nil))) .nil))))))))))))))
def T16 : G.S := (.asg (.v 12) (.bin .add (.var 12) (.lst (.cons (.tup (.cons (.k (.str [34])) (.cons (.k (.int 1)) .nil))) (.cons (.tup (.cons (.k (.str [34, 97, 92])) (.cons (.k (.int 3)) .nil))) (.cons (.tup (.cons (.k (.str [34, 97, 92, 34])) (.cons (.k (.int 4)) .nil))) (.cons (.tup (.cons (.k (.str [40, 34, 97, 92, 110, 34, 41])) (.cons (.k (.int 1)) .nil))) (.cons (.tup (.cons (.k (.str [40, 65])) (.cons (.k (.int 1)) .nil))) (.cons (.tup (.cons (.k (.str [35, 32, 39, 97])) (.cons (.k (.int 0)) .nil))) (.cons (.tup (.cons (.k (.str [97, 35])) (.cons (.k (.int 0)) .nil))) (.cons (.tup (.cons (.k (.str [40, 97, 41, 41])) (.cons (.k (.int 3)) .nil))) (.cons (.tup (.cons (.k (.str [97, 32, 46, 32, 98])) (.cons (.k (.int 2)) .nil))) (.cons (.tup (.cons (.k (.str [39, 40, 97, 41, 32, 39, 98])) (.cons (.k (.int 5)) .nil))) .nil)))))))))))))
def T17 : G.S := (.ife (.cmp .ne (.lc (.cons (.v 3) (.cons (.v 7) .nil)) (.itr (.var 12)) (.cons (.cmp .ne (.clo 0 (.call 23 (.cons (.var 3) .nil))) (.bin .add (.k (.str [116, 101, 120, 116, 32])) (.bi .str (.cons (.var 7) .nil)))) .nil) (.var 3) [3, 7]) (.lst .nil)) (.seq (.rt (.k (.bl false))) .nil) .nil)
def T18 : G.S := (.asg (.v 13) (.mlst (.cons (.k (.str [49, 48, 48, 48, 48, 48, 48, 48, 48, 48, 48, 48, 49])) (.cons (.k (.str [45, 49, 48, 48, 48, 48, 48, 48, 48, 48, 48, 48, 48, 49])) (.cons (.bin .mul (.k (.str [57])) (.k (.int 200))) (.cons (.bin .mul (.k (.str [120])) (.k (.int 21))) (.cons (.bin .add (.bin .add (.k (.str [34])) (.bin .mul (.k (.str [97])) (.k (.int 401)))) (.k (.str [34]))) (.cons (.bin .add (.bin .add (.bin .mul (.k (.str [40])) (.k (.int 60))) (.bin .mul (.k (.str [41])) (.k (.int 61)))) (.k (.str [40]))) (.cons (.bin .add (.bin .mul (.k (.str [39])) (.k (.int 201))) (.k (.str [97]))) (.cons (.bin .mul (.k (.str [40])) (.k (.int 201))) (.cons (.bin .add (.bin .mul (.k (.str [40])) (.k (.int 61))) (.bin .mul (.k (.str [41])) (.k (.int 61)))) .nil)))))))))))
def T19 : G.S := (.seti (.var 13) (.k (.int 5)) (.bin .add (.bin .add (.bin .mul (.k (.str [40])) (.k (.int 60))) (.k (.str [97]))) (.bin .mul (.k (.str [41])) (.k (.int 60)))))
def T20 : G.S := (.asg (.v 13) (.bin .add (.var 13) (.mlst (.cons (.bin .add (.bin .mul (.k (.str [39])) (.k (.int 60))) (.k (.str [97]))) (.cons (.bin .add (.bin .add (.k (.str [40])) (.bin .mul (.k (.str [49, 32])) (.k (.int 1000)))) (.k (.str [41]))) (.cons (.bin .add (.bin .mul (.k (.str [40])) (.k (.int 201))) (.k (.str [41, 41, 41, 32, 97]))) (.cons (.bin .mul (.k (.str [35, 39])) (.k (.int 201))) .nil)))))))
def T21 : G.S := (.ife (.cmp .ne (.lc (.v 3) (.itr (.var 13)) (.cons (.cmp .ne (.clo 0 (.call 23 (.cons (.var 3) .nil))) (.k (.str [100, 97, 116, 117, 109]))) .nil) (.var 3) [3]) (.lst .nil)) (.seq (.rt (.k (.bl false))) .nil) .nil)
def T22 : G.S := (.asg (.v 14) (.lst (.cons (.bin .add (.bin .mul (.k (.str [40])) (.k (.int 60))) (.bin .mul (.k (.str [41])) (.k (.int 60)))) (.cons (.k (.str [49, 48, 48, 48, 48, 48, 48, 48, 48, 48, 48, 48, 48])) (.cons (.bin .mul (.k (.str [120])) (.k (.int 20))) (.cons (.bin .add (.bin .add (.k (.str [40])) (.bin .mul (.k (.str [49, 32])) (.k (.int 999)))) (.k (.str [41]))) (.cons (.bin .add (.bin .add (.k (.str [34])) (.bin .mul (.k (.str [97])) (.k (.int 400)))) (.k (.str [34]))) (.cons (.bin .add (.bin .mul (.k (.str [39])) (.k (.int 59))) (.k (.str [97]))) (.cons (.bin .add (.bin .mul (.k (.str [48])) (.k (.int 300))) (.k (.str [55]))) .nil)))))))))
def T23 : G.S := (.ife (.cmp .ne (.lc (.v 3) (.itr (.var 14)) (.cons (.cmp .ne (.clo 0 (.call 23 (.cons (.var 3) .nil))) (.k (.str []))) .nil) (.var 3) [3]) (.lst .nil)) (.seq (.rt (.k (.bl false))) .nil) .nil)
def T24 : G.S := (.asg (.v 15) (.mlst (.cons (.clo 0 (.call 23 (.cons (.bin .add (.bin .mul (.k (.str [40])) (.k (.int 201))) (.k (.str [65]))) .nil))) .nil)))
def T25 : G.S := (.expr (.meth .append (.var 15) (.cons (.clo 0 (.call 23 (.cons (.bin .add (.k (.str [41, 32])) (.bin .mul (.k (.str [120])) (.k (.int 21)))) .nil))) .nil)))
def T26 : G.S := (.asg (.v 16) (.lst (.cons (.k .non) (.cons (.lst (.cons (.k (.int 1)) .nil)) (.cons (.k (.str [110, 105, 108])) (.cons (.tup (.cons (.k (.str [97])) (.cons (.k .non) .nil))) (.cons (.bin .add (.bin .pow (.k (.int 10)) (.k (.int 12))) (.k (.int 1))) (.cons (.k (.bl true)) .nil))))))))
def T27 : G.S := (.rt (.and (.cmp .eq (.var 15) (.lst (.cons (.k (.str [116, 101, 120, 116, 32, 50, 48, 49])) (.cons (.k (.str [116, 101, 120, 116, 32, 48])) .nil)))) (.cmp .eq (.lc (.v 10) (.itr (.var 16)) (.cons (.cmp .ne (.clo 0 (.call 21 (.cons (.var 10) .nil))) (.k (.str [100, 97, 116, 117, 109]))) .nil) (.var 10) [10]) (.lst .nil))))
def U28 : G.S := .nil
def U27 : G.S := .seq T27 U28
def U26 : G.S := .seq T26 U27
def U25 : G.S := .seq T25 U26
def U24 : G.S := .seq T24 U25
def U23 : G.S := .seq T23 U24
def U22 : G.S := .seq T22 U23
def U21 : G.S := .seq T21 U22
def U20 : G.S := .seq T20 U21
def U19 : G.S := .seq T19 U20
def U18 : G.S := .seq T18 U19
def U17 : G.S := .seq T17 U18
def U16 : G.S := .seq T16 U17
def U15 : G.S := .seq T15 U16
def U14 : G.S := .seq T14 U15
theorem u27 : ∃ env', evS pk.pg (callD pk.pg 39) U27 (eG e0 e1 e2 e3 e4 e5 e6 e7 e8 e9 (some (.tup [.str [97]])) (some (.ref 5)) (some (.lst (prs.map cW))) (some (.lst (dAll.map .str))) (some (.lst (gAll.map .str))) (some (.ref 8)) (some (.lst odds))) (s10 a b cs) = .ok (.rt (.bl true)) env' (s10 a b cs) := by
  obtain ⟨env', h⟩ := rtOf_some (st27 e0 e1 e2 e3 e4 e5 e6 e7 e8 e9 (some (.tup [.str [97]])) (some (.ref 5)) (some (.lst (prs.map cW))) (some (.lst (dAll.map .str))) (some (.lst (gAll.map .str))) a b cs (dNew.map .str) (dMore.map .str))
  exact ⟨env', seq_of_rt h⟩
theorem u26 : ∃ env', evS pk.pg (callD pk.pg 39) U26 (eG e0 e1 e2 e3 e4 e5 e6 e7 e8 e9 (some (.tup [.str [97]])) (some (.ref 5)) (some (.lst (prs.map cW))) (some (.lst (dAll.map .str))) (some (.lst (gAll.map .str))) (some (.ref 8)) none) (s10 a b cs) = .ok (.rt (.bl true)) env' (s10 a b cs) := by
  obtain ⟨env', h⟩ := u27 e0 e1 e2 e3 e4 e5 e6 e7 e8 e9 a b cs
  exact ⟨env', seq_of (st26 e0 e1 e2 e3 e4 e5 e6 e7 e8 e9 (some (.tup [.str [97]])) (some (.ref 5)) (some (.lst (prs.map cW))) (some (.lst (dAll.map .str))) (some (.lst (gAll.map .str))) _) h⟩
theorem u25 : ∃ env', evS pk.pg (callD pk.pg 39) U25 (eG e0 e1 e2 e3 e4 e5 e6 e7 e8 e9 (some (.tup [.str [97]])) (some (.ref 5)) (some (.lst (prs.map cW))) (some (.lst (dAll.map .str))) (some (.lst (gAll.map .str))) (some (.ref 8)) none) (s9 a b cs) = .ok (.rt (.bl true)) env' (s10 a b cs) := by
  obtain ⟨env', h⟩ := u26 e0 e1 e2 e3 e4 e5 e6 e7 e8 e9 a b cs
  exact ⟨env', seq_of (st25 e0 e1 e2 e3 e4 e5 e6 e7 e8 e9 (some (.tup [.str [97]])) (some (.ref 5)) (some (.lst (prs.map cW))) (some (.lst (dAll.map .str))) (some (.lst (gAll.map .str))) a b cs) h⟩
theorem u24 : ∃ env', evS pk.pg (callD pk.pg 39) U24 (eG e0 e1 e2 e3 e4 e5 e6 e7 e8 e9 (some (.tup [.str [97]])) (some (.ref 5)) (some (.lst (prs.map cW))) (some (.lst (dAll.map .str))) (some (.lst (gAll.map .str))) none none) (s8 a b cs) = .ok (.rt (.bl true)) env' (s10 a b cs) := by
  obtain ⟨env', h⟩ := u25 e0 e1 e2 e3 e4 e5 e6 e7 e8 e9 a b cs
  exact ⟨env', seq_of (st24 e0 e1 e2 e3 e4 e5 e6 e7 e8 e9 (some (.tup [.str [97]])) (some (.ref 5)) (some (.lst (prs.map cW))) (some (.lst (dAll.map .str))) (some (.lst (gAll.map .str))) a b cs) h⟩
theorem u23 : ∃ env', evS pk.pg (callD pk.pg 39) U23 (eG e0 e1 e2 e3 e4 e5 e6 e7 e8 e9 (some (.tup [.str [97]])) (some (.ref 5)) (some (.lst (prs.map cW))) (some (.lst (dAll.map .str))) (some (.lst (gAll.map .str))) none none) (s8 a b cs) = .ok (.rt (.bl true)) env' (s10 a b cs) := by
  obtain ⟨env', h⟩ := u24 e0 e1 e2 e3 e4 e5 e6 e7 e8 e9 a b cs
  exact ⟨env', seq_of (st23 e0 e1 e2 e3 e4 e5 e6 e7 e8 e9 (some (.tup [.str [97]])) (some (.ref 5)) (some (.lst (prs.map cW))) (some (.lst (dAll.map .str))) _) h⟩
theorem u22 : ∃ env', evS pk.pg (callD pk.pg 39) U22 (eG e0 e1 e2 e3 e4 e5 e6 e7 e8 e9 (some (.tup [.str [97]])) (some (.ref 5)) (some (.lst (prs.map cW))) (some (.lst (dAll.map .str))) none none none) (s8 a b cs) = .ok (.rt (.bl true)) env' (s10 a b cs) := by
  obtain ⟨env', h⟩ := u23 e0 e1 e2 e3 e4 e5 e6 e7 e8 e9 a b cs
  exact ⟨env', seq_of (st22 e0 e1 e2 e3 e4 e5 e6 e7 e8 e9 (some (.tup [.str [97]])) (some (.ref 5)) (some (.lst (prs.map cW))) (some (.lst (dAll.map .str))) _) h⟩
theorem u21 : ∃ env', evS pk.pg (callD pk.pg 39) U21 (eG e0 e1 e2 e3 e4 e5 e6 e7 e8 e9 (some (.tup [.str [97]])) (some (.ref 5)) (some (.lst (prs.map cW))) (some (.lst (dAll.map .str))) none none none) (s8 a b cs) = .ok (.rt (.bl true)) env' (s10 a b cs) := by
  obtain ⟨env', h⟩ := u22 e0 e1 e2 e3 e4 e5 e6 e7 e8 e9 a b cs
  exact ⟨env', seq_of (st21 e0 e1 e2 e3 e4 e5 e6 e7 e8 e9 (some (.tup [.str [97]])) (some (.ref 5)) (some (.lst (prs.map cW))) _) h⟩
theorem u20 : ∃ env', evS pk.pg (callD pk.pg 39) U20 (eG e0 e1 e2 e3 e4 e5 e6 e7 e8 e9 (some (.tup [.str [97]])) (some (.ref 5)) (some (.lst (prs.map cW))) (some (.ref 6)) none none none) (s7b a b cs) = .ok (.rt (.bl true)) env' (s10 a b cs) := by
  obtain ⟨env', h⟩ := u21 e0 e1 e2 e3 e4 e5 e6 e7 e8 e9 a b cs
  exact ⟨env', seq_of (st20 e0 e1 e2 e3 e4 e5 e6 e7 e8 e9 a b cs (some (.tup [.str [97]])) (some (.ref 5)) (some (.lst (prs.map cW)))) h⟩
theorem u19 : ∃ env', evS pk.pg (callD pk.pg 39) U19 (eG e0 e1 e2 e3 e4 e5 e6 e7 e8 e9 (some (.tup [.str [97]])) (some (.ref 5)) (some (.lst (prs.map cW))) (some (.ref 6)) none none none) (s7 a b cs) = .ok (.rt (.bl true)) env' (s10 a b cs) := by
  obtain ⟨env', h⟩ := u20 e0 e1 e2 e3 e4 e5 e6 e7 e8 e9 a b cs
  exact ⟨env', seq_of (st19 e0 e1 e2 e3 e4 e5 e6 e7 e8 e9 a b cs (some (.tup [.str [97]])) (some (.ref 5)) (some (.lst (prs.map cW)))) h⟩
theorem u18 : ∃ env', evS pk.pg (callD pk.pg 39) U18 (eG e0 e1 e2 e3 e4 e5 e6 e7 e8 e9 (some (.tup [.str [97]])) (some (.ref 5)) (some (.lst (prs.map cW))) none none none none) (s6 a b cs) = .ok (.rt (.bl true)) env' (s10 a b cs) := by
  obtain ⟨env', h⟩ := u19 e0 e1 e2 e3 e4 e5 e6 e7 e8 e9 a b cs
  exact ⟨env', seq_of (st18 e0 e1 e2 e3 e4 e5 e6 e7 e8 e9 a b cs (some (.tup [.str [97]])) (some (.ref 5)) (some (.lst (prs.map cW)))) h⟩
theorem u17 : ∃ env', evS pk.pg (callD pk.pg 39) U17 (eG e0 e1 e2 e3 e4 e5 e6 e7 e8 e9 (some (.tup [.str [97]])) (some (.ref 5)) (some (.lst (prs.map cW))) none none none none) (s6 a b cs) = .ok (.rt (.bl true)) env' (s10 a b cs) := by
  obtain ⟨env', h⟩ := u18 e0 e1 e2 e3 e4 e5 e6 e7 e8 e9 a b cs
  exact ⟨env', seq_of (st17 e0 e1 e2 e3 e4 e5 e6 e7 e8 e9 (some (.tup [.str [97]])) (some (.ref 5)) _) h⟩
theorem u16 : ∃ env', evS pk.pg (callD pk.pg 39) U16 (eG e0 e1 e2 e3 e4 e5 e6 e7 e8 e9 (some (.tup [.str [97]])) (some (.ref 5)) (some (.lst (prs1.map cW))) none none none none) (s6 a b cs) = .ok (.rt (.bl true)) env' (s10 a b cs) := by
  obtain ⟨env', h⟩ := u17 e0 e1 e2 e3 e4 e5 e6 e7 e8 e9 a b cs
  exact ⟨env', seq_of (st16 e0 e1 e2 e3 e4 e5 e6 e7 e8 e9 (some (.tup [.str [97]])) (some (.ref 5)) _) h⟩
theorem u15 : ∃ env', evS pk.pg (callD pk.pg 39) U15 (eG e0 e1 e2 e3 e4 e5 e6 e7 e8 e9 (some (.tup [.str [97]])) (some (.ref 5)) none none none none none) (s6 a b cs) = .ok (.rt (.bl true)) env' (s10 a b cs) := by
  obtain ⟨env', h⟩ := u16 e0 e1 e2 e3 e4 e5 e6 e7 e8 e9 a b cs
  exact ⟨env', seq_of (st15 e0 e1 e2 e3 e4 e5 e6 e7 e8 e9 (some (.tup [.str [97]])) (some (.ref 5)) _) h⟩
theorem u14 : ∃ env', evS pk.pg (callD pk.pg 39) U14 (eF e0 e1 e2 e3 e4 e5 e6 e7 e8 e9 none none none none none none none none none) [[.int a, .int b], cs] = .ok (.rt (.bl true)) env' (s10 a b cs) := by
  obtain ⟨env', h⟩ := u15 e0 e1 e2 e3 e4 e5 e6 e7 e8 e9 a b cs
  exact ⟨env', seq_of (st14 e0 e1 e2 e3 e4 e5 e6 e7 e8 e9 a b cs) h⟩
end
end K02

set_option Elab.async false
set_option linter.all false
set_option maxRecDepth 100000
set_option maxHeartbeats 4000000
namespace K02
open G Q1
theorem first_ok (ns : List Int) (hn : ns.length ≤ 63) : ∃ e0 e1 e2 e3 e4 e5 e6 e7 e8 e9 a b cs, ∀ S2, evS pk.pg (callD pk.pg 39) (.seq (.asg (.v 1) (.call 24 (.cons (.var 0) .nil))) (.seq (.asg (.v 2) (.tup (.cons (.call 27 (.cons (.var 1) .nil)) (.cons (.call 29 (.cons (.var 1) (.cons (.bin .add (.k (.int 1)) (.call 25 (.cons (.var 1) (.cons (.k (.int 3)) .nil)))) .nil))) (.cons (.call 29 (.cons (.var 1) (.cons (.k (.int 1)) .nil))) .nil))))) (.seq (.asg (.v 3) (.call 21 (.cons (.var 2) .nil))) (.seq (.asg (.v 4) (.lc (.cons (.v 7) (.cons (.v 17) .nil)) (.itr (.call 22 (.cons (.var 3) .nil))) .nil (.var 7) [7, 17])) (.seq (.par2 5 6 (.call 26 (.cons (.var 1) (.cons (.lst (.cons (.k (.str [])) (.cons (.k (.str [32])) (.cons (.k (.str [10, 32])) .nil)))) .nil))) (.call 26 (.cons (.var 1) (.cons (.lst (.cons (.k (.str [97])) (.cons (.k (.str [40])) (.cons (.k (.str [41])) (.cons (.k (.str [39])) (.cons (.k (.str [35, 39])) (.cons (.k (.str [34, 120, 34])) (.cons (.k (.str [53])) (.cons (.k (.str [110, 105, 108])) .nil))))))))) .nil)))) (.seq (.ife (.and (.cmp .ne (.ix (.var 3) (.k (.int 0))) (.k (.str [40]))) (.and (.cmp .notin (.var 6) (.k (.str [40, 41, 39]))) (.cmp .notin (.ix (.var 6) (.k (.int 0))) (.k (.str [35, 34]))))) (.seq (.asg (.v 5) (.k (.str [32]))) .nil) .nil) (.seq (.asg (.v 7) (.ix (.var 4) (.bin .add (.k (.int 1)) (.call 25 (.cons (.var 1) (.cons (.bin .sub (.bi .len (.cons (.var 4) .nil)) (.k (.int 1))) .nil)))))) (.seq (.asg (.v 8) (.mlst (.cons (.tup (.cons (.bin .add (.bin .add (.bin .add (.var 3) (.var 5)) (.k (.str [32]))) (.var 6)) (.cons (.bin .add (.bi .len (.cons (.bin .add (.var 3) (.var 5)) .nil)) (.k (.int 1))) .nil))) (.cons (.tup (.cons (.bin .add (.bin .add (.k (.str [41])) (.var 5)) (.var 3)) (.cons (.k (.int 0)) .nil))) (.cons (.tup (.cons (.sl (.var 3) .no (.itr (.var 7))) (.cons (.var 7) .nil))) (.cons (.tup (.cons (.bin .add (.sl (.var 3) .no (.itr (.var 7))) (.k (.str [39, 32, 41]))) (.cons (.bin .add (.var 7) (.k (.int 2))) .nil))) .nil)))))) (.seq (.asg (.v 9) (.call 26 (.cons (.var 1) (.cons (.lst (.cons (.k (.str [65])) (.cons (.k (.str [35])) (.cons (.k (.str [97, 46, 98])) (.cons (.k (.str [35, 97])) (.cons (.k (.str [123])) (.cons (.k (.str [57, 95])) .nil))))))) .nil)))) (.seq (.expr (.meth .append (.var 8) (.cons (.tup (.cons (.bin .add (.bin .add (.bin .add (.bin .add (.sl (.var 3) .no (.itr (.var 7))) (.k (.str [32]))) (.var 9)) (.k (.str [32]))) (.sl (.var 3) (.itr (.var 7)) .no)) (.cons (.bin .add (.var 7) (.k (.int 1))) .nil))) .nil))) (.seq (.expr (.meth .append (.var 8) (.cons (.tup (.cons (.bin .add (.bin .add (.sl (.var 3) .no (.itr (.var 7))) (.k (.str [32, 34, 97, 92, 98, 34, 32]))) (.sl (.var 3) (.itr (.var 7)) .no)) (.cons (.bin .add (.var 7) (.k (.int 1))) .nil))) .nil))) (.seq (.expr (.meth .append (.var 8) (.cons (.tup (.cons (.bin .add (.bin .add (.sl (.var 3) .no (.itr (.var 7))) (.k (.str [32, 34]))) (.call 26 (.cons (.var 1) (.cons (.lst (.cons (.k (.str [])) (.cons (.k (.str [97])) (.cons (.k (.str [92])) .nil)))) .nil)))) (.cons (.k (.int 0)) .nil))) .nil))) (.seq (.seti (.var 8) (.neg (.k (.int 1))) (.tup (.cons (.ix (.ix (.var 8) (.neg (.k (.int 1)))) (.k (.int 0))) (.cons (.bi .len (.cons (.ix (.ix (.var 8) (.neg (.k (.int 1)))) (.k (.int 0))) .nil)) .nil)))) (.seq (.ife (.and (.cmp .eq (.sl (.var 3) .no (.itr (.k (.int 1)))) (.k (.str [40]))) (.cmp .ne (.lc (.cons (.v 10) (.cons (.v 18) .nil)) (.itr (.var 8)) (.cons (.cmp .ne (.clo 0 (.call 23 (.cons (.var 10) .nil))) (.bin .add (.k (.str [116, 101, 120, 116, 32])) (.bi .str (.cons (.var 18) .nil)))) .nil) (.k (.int 1)) [10, 18]) (.lst .nil))) (.seq (.rt (.k (.bl false))) .nil) .nil) S2)))))))))))))) (some (.scr ns) :: List.replicate 18 none) [] =
    evS pk.pg (callD pk.pg 39) S2 (eF e0 e1 e2 e3 e4 e5 e6 e7 e8 e9 none none none none none none none none none) [[.int a, .int b], cs] := by
  obtain ⟨ws, L, L1, L2, g, t, ts', gap, more, a, b, pl, c, hg, hgl, hm, e1⟩ := pre_ok ns hn
  have hmm := more_tg more hm
  have htx := c.tx2
  have hln := c.ln
  rw [htx] at e1 hln
  obtain ⟨bad, y, a', b', hb, hy, e2⟩ := cases_ok ns (.tup ws) pl (txt L1 ++ g) (t ++ txt L2) gap more a b hln hgl hmm.2.1
  have cA := c.cA hg hgl hm
  have cB := c.cB hg hgl
  have cC := c.cC
  have cD := c.cD
  have cE := c.cE hb
  have cF := c.cF
  have cG := c.cG hy
  rw [htx] at cA cB
  generalize txt L1 ++ g = A at *
  generalize t ++ txt L2 = B at *
  have hall : ∀ q ∈ [((((A ++ B) ++ gap) ++ [32]) ++ more, ((A ++ B) ++ gap).length + 1), (([41] ++ gap) ++ (A ++ B), 0), (A, A.length), (A ++ [39, 32, 41], A.length + 2), ((((A ++ [32]) ++ bad) ++ [32]) ++ B, A.length + 1), ((A ++ [32, 34, 97, 92, 98, 34, 32]) ++ B, A.length + 1), ((A ++ [32, 34]) ++ y, ((A ++ [32, 34]) ++ y).length)], Bad q.1 q.2 ∧ q.2 ≤ 1000000 := by
    intro q hq
    have hyl : y.length ≤ 1 := by rcases hy with rfl | rfl | rfl <;> simp
    rw [List.length_append] at hln
    simp only [List.mem_cons, List.not_mem_nil, or_false] at hq
    rcases hq with rfl | rfl | rfl | rfl | rfl | rfl | rfl
    · exact ⟨cA, by simp only [List.length_append]; omega⟩
    · exact ⟨cB, by omega⟩
    · exact ⟨cC, by dsimp only; omega⟩
    · exact ⟨cD, by dsimp only; omega⟩
    · exact ⟨cE, by dsimp only; omega⟩
    · exact ⟨cF, by dsimp only; omega⟩
    · exact ⟨cG, by simp only [List.length_append, List.length_cons, List.length_nil]; omega⟩
  have e3 := fun S2 => st13 ns (.tup ws) pl (A ++ B) gap more bad A.length a' b' _ (by omega) hall (by simp) S2
  exact ⟨_, _, _, _, _, _, _, _, _, _, _, _, _, fun S2 => by rw [e1, e2, e3]⟩
theorem law_true : LawTrue pk 40 30 63 := by
  intro ns hn _
  obtain ⟨e0, e1, e2, e3, e4, e5, e6, e7, e8, e9, a, b, cs, h⟩ := first_ok ns hn
  obtain ⟨env', k⟩ := u14 e0 e1 e2 e3 e4 e5 e6 e7 e8 e9 a b cs
  refine ⟨s10 a b cs, ?_⟩
  rw [call_eq (df := ⟨1, 19, b_law⟩) rfl rfl]
  have hb : evS pk.pg (callD pk.pg 39) b_law (some (.scr ns) :: List.replicate 18 none) [] = .ok (.rt (.bl true)) env' (s10 a b cs) := (h U14).trans k
  show (match evS pk.pg (callD pk.pg 39) b_law (some (.scr ns) :: List.replicate 18 none) [] with
        | .ok .nx _ s' => R.ok W.non s'
        | .ok (.rt w) _ s' => .ok w s'
        | .exc c l _ s' => .exc c l s'
        | _ => .err) = _
  rw [hb]
end K02

set_option Elab.async false
set_option linter.all false
set_option maxRecDepth 100000
set_option maxHeartbeats 0
namespace K02
open PySem PySem.Spec PyProof.Rows L2 G
def names0 : List Str := ["LispError", "InvalidDatum", "InvalidForm", "InvalidProgram", "InvalidType", "InvalidNumber", "InvalidText", "SIZE", "DEPTH", "GREATEST", "LONGEST", "TEXT", "FIGURES", "SIGNS", "is_whole", "is_made_of", "is_figures", "fits_word", "fits_text", "is_atom", "measured", "need_datum", "OPEN", "HEADS", "text_written", "written"]
def names1 : List Str := ["end_of_text", "end_of_token", "letters_of", "fits_token", "tokens_in", "integer_by", "atom_by", "with_datum", "datum_by", "need_shallow", "need_string", "datum_text", "tokens_of", "read_datum", "_law_cup", "_law_roll", "_law_some", "_law_word", "_law_text", "_law_datum", "_law_size", "_law_error"]
def names : List Str := names0 ++ names1
abbrev R : PySem.W.OpenRow := PySem.W.OpenLaw.row PySem.Challenge.rw_restartlisp_k02_whole_texts_that_are_ref
abbrev hk : PySem.W.Hook := hookG PySem.Challenge.pw_restartlisp_k02_whole_texts_that_are_ref pk.xs 3 pk.fa pk.fn pk.lam pk.cs pk.tbs
def ob (s : PySem.W.SharedT) : (He.Al × Bool) × List (Option (List (Option (Str × Int)))) := obG PySem.Challenge.pw_restartlisp_k02_whole_texts_that_are_ref pk.xs 3 pk.fa pk.fn pk.lam pk.cs pk.tbs s
theorem ob_eq (s : PySem.W.SharedT) : ob s = hk.obs s.abs := obG_eq s
theorem run0 (w : World) : HandSHeadRun.RunEq R (PySem.W.view R.prog [52]) hk ob 20000 names (w.withFollow "special-get-raises" false) := by
  intro os
  kernel_rfl
theorem run1 (w : World) : HandSHeadRun.RunEq R (PySem.W.view R.prog [52]) hk ob 20000 names (w.withFollow "special-get-raises" true) := by
  intro os
  kernel_rfl
theorem run (w : World) : HandSHeadRun.RunEq R (PySem.W.view R.prog [52]) hk ob 20000 names w :=
  PySem.W.byRow2 "special-get-raises" (P := fun w => HandSHeadRun.RunEq R (PySem.W.view R.prog [52]) hk ob 20000 names w) run0 run1 w
end K02

set_option Elab.async false
set_option linter.all false
set_option maxRecDepth 100000
set_option maxHeartbeats 0
open PySem PySem.W PySem.Calls PyProof.Rows
theorem PySem.Challenge.cw_restartlisp_k02_whole_texts_that_are_ref_holds : PySem.Challenge.rw_restartlisp_k02_whole_texts_that_are_ref.Holds := by
  w_on; o_law
  refine HandSHeadRun.head_any (r := OpenLaw.row PySem.Challenge.rw_restartlisp_k02_whole_texts_that_are_ref) (q := view (OpenLaw.row PySem.Challenge.rw_restartlisp_k02_whole_texts_that_are_ref).prog [52]) (H := K02.hk) (ob := K02.ob) (M := 20000) (loose := K02.names) (d := HandSHeadRun.topDef (OpenLaw.row PySem.Challenge.rw_restartlisp_k02_whole_texts_that_are_ref).prog 52) (kwd := []) K02.ob_eq
    (by kernel_rfl) (fun s => by kernel_rfl) K02.run (by kernel_rfl) (by kernel_rfl) (by kernel_rfl) (by rfl) (by first | assumption | decide +kernel) (by decide +kernel) ⟨rfl, rfl, rfl, rfl, rfl, by decide +kernel⟩ ?hw ?hc
  case hw => w_witness2
  case hc =>
    refine LamX.walk_ofTsE (l := PySem.Challenge.rw_restartlisp_k02_whole_texts_that_are_ref) (n := 63) (k := 40) (x := "_law_script") (CX := fun w => L2.CX PySem.Challenge.rw_restartlisp_k02_whole_texts_that_are_ref.prog w) rfl (by decide) (by kernel_rfl) ⟨rfl, by decide, by decide⟩ ?F ?C
    case C =>
      intro w H s e s' h
      exact G.cx_false h
    intro w mg fa h Y X hmg0
    obtain ⟨K, KX, c, tb⟩ := Y
    have hmg : mg ("law" : PySem.Str) = some (.ref fa) := by
      have e : (HandSHeadRun.topDef (OpenLaw.row PySem.Challenge.rw_restartlisp_k02_whole_texts_that_are_ref).prog 52).name = ("law" : PySem.Str) := by kernel_rfl
      rw [← e]
      exact hmg0
    exact ⟨K, KX, G.law_at K02.ok KX X hmg c tb (i := 30) (by rfl) (fun dd hd => by cases hd; rfl) (fun T => K02.tells KX X c.says c.xi T) K02.law_true⟩
