import PyProof.Rows.All
import HandS.Base
import PyProof.SliceList
import KE.LtData
import Wide.All
import OpenK.AllK
import Wide.FinOn
import HandS.ForMost
import HandS.ForExc
import HandS.Dict
import HandS.TupAny
import HandS.TupMul
import HandS.Wide
import HandS.Style
import HandS.IsInst
import HandS.Zip
import HandS.Lambda
import HandS.TryMany
import HandS.EndTab
import KE.KDictPairs
import HandS.RaiseMore
import KE.GoesZip
import KE.GoesMore
import KE.KDictZip
import HandS.ListItems
import PyProof.NeData
import PyProof.P3Eq
import KE.DataMinMax
import HandS.CallSlots
import HandS.Head0
import HandS.Head1
import HandS.Head2
import HandS.HeadEnd
import HandS.HeadHook1
import HandS.HeadWalk
import PyProof.ExcBaseAll.ValueError
import PySem.Challenge.RW_restartlisp_k18_classes_that_are_refused
import HandS.HeadHook2
set_option linter.all false
set_option autoImplicit false
/-! G1: values by content, a store, the small language, its evaluator. -/
namespace G
open PySem

/-- values by content; htup: a tuple that is known to have no dict of its own; ref: a list of the store; scr: the law's argument; ty: a built-in class; fn: a def of the program; cls: a class of errors -/
inductive W where
  | non | bl (b : Bool) | int (i : Int) | str (l : List Nat)
  | tup (xs : List W) | htup (xs : List W) | lst (xs : List W) | dct (ks : List (List Nat)) (vs : List W)
  | ref (n : Nat) | scr (ns : List Int) | ty (s : String) | fn (n : Nat)
  deriving Inhabited

abbrev ST := List (List W)

inductive R (α : Type) where
  | ok (a : α) (s : ST)
  | exc (c : Nat) (l : List W) (s : ST)
  | err

abbrev M (α : Type) := ST → R α
def ret {α : Type} (a : α) : M α := fun s => .ok a s
def fail {α : Type} : M α := fun _ => .err
def bnd {α β : Type} (m : M α) (f : α → M β) : M β := fun s => match m s with
  | .ok a s' => f a s'
  | .exc c l s' => .exc c l s'
  | .err => .err
def opt {α : Type} : Option α → M α
  | some a => ret a
  | none => fail
/-- read the store -/
def rd {α : Type} (f : ST → Option α) : M α := fun s => match f s with
  | some a => .ok a s
  | none => .err

inductive Bop where | add | sub | mul | fdiv | mod | pow
  deriving DecidableEq
inductive Cop where | eq | ne | lt | le | gt | ge | is | isnot | isin | notin
  deriving DecidableEq
/-- built-ins; lenset: len(set(x)); mlist: list(x), a list that may change -/
inductive Bi where | len | abs | int | str | list | mlist | tuple | dict | max | min | sum | all | any | sorted | isi | lenset | htuple
  deriving DecidableEq
inductive Me where | append | pop | get | join | index
  deriving DecidableEq

/-- targets -/
inductive T where
  | v (i : Nat) | nil | cons (a b : T)
  deriving DecidableEq

/-- expressions; nil, cons: rows of expressions; rng, enum, zip, items: what is walked alone -/
inductive E where
  | var (i : Nat) | k (w : W) | glob (n : Nat) | fnv (n : Nat)
  | bin (op : Bop) (a b : E) | neg (a : E) | cmp (op : Cop) (a b : E) | chain (op op' : Cop) (a b c : E)
  | and (a b : E) | or (a b : E) | not (a : E) | ife (c a b : E)
  | tup (l : E) | htup (l : E) | lst (l : E) | mlst (l : E)
  | ix (a b : E) | sl (a lo hi : E) | slx (a lo hi : E) (st : Int) | no | rev (a : E)
  | call (n : Nat) (l : E) | bi (b : Bi) (l : E) | meth (m : Me) (o l : E)
  | lc (t : T) (it : E) (ifs : E) (e : E) (own : List Nat)
  | lzip (a b : E) | lrng (l : E) | lens (a : E)
  | rng (l : E) | enum (a : E) | zip (a b : E) | itr (a : E)
  | clo (i : Nat) (l : E)
  | nil | cons (a b : E)

inductive S where
  | nil | seq (a b : S)
  | asg (t : T) (e : E) | par2 (i j : Nat) (a b : E) | par3 (i j l : Nat) (a b c : E) | seti (o i e : E)
  | expr (e : E) | rt (e : E) | rtn | ife (c : E) (a b : S)
  | whl (c : E) (b : S) | forr (t : T) (it : E) (b : S)
  | brk | cnt | pass | raise (c : Nat) (l : E)

structure Def where
  np : Nat
  nl : Nat
  body : S

abbrev Env := List (Option W)

/-! ### values -/
def line : Nat := 16777216

mutual
def wdep : W → Nat
  | .tup xs => wdeps xs + 1
  | .lst xs => wdeps xs + 1
  | _ => 0
def wdeps : List W → Nat
  | [] => 0
  | x :: xs => max (wdep x) (wdeps xs)
end

/-! == of Python, on what is compared by content -/
mutual
def weq : W → W → Bool
  | .non, .non => true
  | .bl a, .bl b => a == b
  | .bl a, .int j => (if a then 1 else 0) == j
  | .int i, .bl b => i == (if b then 1 else 0)
  | .int i, .int j => i == j
  | .str x, .str y => x == y
  | .lst xs, .lst ys => weqs xs ys
  | .tup xs, .tup ys => weqs xs ys
  | _, _ => false
def weqs : List W → List W → Bool
  | [], [] => true
  | x :: xs, y :: ys => weq x y && weqs xs ys
  | _, _ => false
end

/-- a tuple as any tuple -/
def soft : W → W
  | .htup xs => .tup xs
  | w => w
def isSc : W → Bool
  | .non | .bl _ | .int _ | .str _ => true
  | _ => false
def isSq : W → Bool
  | .lst _ | .tup _ => true
  | _ => false

/-! whether two values may be compared by weq, n deep -/
mutual
def eqOk : Nat → W → W → Bool
  | 0, a, b => (isSc a && (isSc b || isSq b)) || (isSq a && isSc b)
  | n + 1, .lst xs, .lst ys => (xs.length != ys.length) || eqOks n xs ys
  | n + 1, .tup xs, .tup ys => eqOks n xs ys
  | _ + 1, .lst _, b => isSc b || (match b with | .tup _ => true | _ => false)
  | _ + 1, .tup _, b => isSc b || (match b with | .lst _ => true | _ => false)
  | _ + 1, a, b => isSc a && (isSc b || isSq b)
def eqOks : Nat → List W → List W → Bool
  | n, x :: xs, y :: ys => eqOk n x y && eqOks n xs ys
  | _, _, _ => true
end

/-- a list of the store read as what it holds -/
def deref (s : ST) : W → Option W
  | .ref n => match s[n]? with
    | some xs => some (.lst xs)
    | none => none
  | .htup xs => some (.tup xs)
  | w => some w

def wEq (s : ST) (a b : W) : Option Bool :=
  match deref s a, deref s b with
  | some x, some y => if eqOk 64 x y then some (weq x y) else none
  | _, _ => none

/-- the items of a list -/
def seqL (s : ST) : W → Option (List W)
  | .lst xs => some xs
  | .ref n => s[n]?
  | _ => none
/-- the items of a list or a tuple -/
def seqI (s : ST) : W → Option (List W)
  | .lst xs => some xs
  | .tup xs => some xs
  | .htup xs => some xs
  | .ref n => s[n]?
  | _ => none

def intsW : List W → Option (List Int)
  | [] => some []
  | .int i :: r => (intsW r).map (i :: ·)
  | _ => none
def boolsW : List W → Option (List Bool)
  | [] => some []
  | .bl b :: r => (boolsW r).map (b :: ·)
  | _ => none
def strsW : List W → Option (List (List Nat))
  | [] => some []
  | .str l :: r => (strsW r).map (l :: ·)
  | _ => none

/-- the index in a row of n of i, from the end if below 0 -/
def ixOf (i : Int) (n : Nat) : Option Nat := if 0 ≤ i then (if i < n then some i.toNat else none) else if -(n : Int) ≤ i then some (i + n).toNat else none
/-- the bound of a slice -/
def cutIx (n : Nat) (d : Nat) : Option Int → Nat
  | none => d
  | some v => if v < 0 then (v + (n : Int)).toNat else min v.toNat n
def cut {α : Type} (xs : List α) (lo hi : Option Int) : List α :=
  (xs.drop (cutIx xs.length 0 lo)).take (cutIx xs.length xs.length hi - cutIx xs.length 0 lo)

def digits (n : Nat) : List Nat := (Nat.toDigits 10 n).map Char.toNat
def intStr (i : Int) : List Nat := if i < 0 then 45 :: digits i.natAbs else digits i.natAbs

def rep {α : Type} : Nat → List α → List α
  | 0, _ => []
  | n + 1, xs => xs ++ rep n xs

def big : Int := 2 ^ 64
def binop (op : Bop) (a b : W) (s : ST) : Option W :=
  match op, a, b with
  | .add, .int i, .int j => some (.int (i + j))
  | .add, .str x, .str y => if x.length + y.length ≤ line then some (.str (x ++ y)) else none
  | .add, .tup xs, .tup ys => if xs.length + ys.length ≤ line then some (.tup (xs ++ ys)) else none
  | .add, a, b => match seqL s a, seqL s b with
    | some xs, some ys => if xs.length + ys.length ≤ line then some (.lst (xs ++ ys)) else none
    | _, _ => none
  | .sub, .int i, .int j => some (.int (i - j))
  | .mul, .int i, .int j => if (-big < i ∧ i < big) ∨ (-big < j ∧ j < big) then some (.int (i * j)) else none
  | .fdiv, .int i, .int j => if 0 < j ∧ j < big then some (.int (i / j)) else none
  | .mod, .int i, .int j => if 0 < j then some (.int (i % j)) else none
  | .pow, .int i, .int j => if 0 ≤ j ∧ j ≤ 1000000 ∧ -big < i ∧ i < big then some (.int (i ^ j.toNat)) else none
  | .mul, .tup xs, .int k => if 2 ≤ k ∧ k ≤ 1000 ∧ 0 < xs.length ∧ xs.length ≤ 1000 then some (.tup (rep k.toNat xs)) else none
  | .mul, .lst xs, .int k => if 0 ≤ k ∧ k < 10000 ∧ xs.length * k.toNat ≤ line then some (.lst (rep k.toNat xs)) else none
  | .mul, .str xs, .int k => if 0 ≤ k ∧ k < 10000 ∧ xs.length * k.toNat ≤ line then some (.str (rep k.toNat xs)) else none
  | _, _, _ => none

/-- lexicographic order of texts -/
def slt : List Nat → List Nat → Bool
  | _, [] => false
  | [], _ :: _ => true
  | x :: xs, y :: ys => if x < y then true else if y < x then false else slt xs ys

def memOk : W → List W → Bool
  | x, ys => ys.all fun y => eqOk 63 y x
def cmpop (op : Cop) (a b : W) (s : ST) : Option Bool :=
  match op with
  | .eq => wEq s a b
  | .ne => (wEq s a b).map (!·)
  | .lt => match a, b with
    | .int i, .int j => some (decide (i < j))
    | .str x, .str y => some (slt x y)
    | _, _ => none
  | .le => match a, b with
    | .int i, .int j => some (decide (i ≤ j))
    | .str x, .str y => some (!slt y x)
    | _, _ => none
  | .gt => match a, b with
    | .int i, .int j => some (decide (j < i))
    | .str x, .str y => some (slt y x)
    | _, _ => none
  | .ge => match a, b with
    | .int i, .int j => some (decide (j ≤ i))
    | .str x, .str y => some (!slt x y)
    | _, _ => none
  | .is => match b with
    | .non => some (match a with | .non => true | _ => false)
    | .bl k => match a with | .bl j => some (j == k) | _ => none
    | _ => none
  | .isnot => match b with
    | .non => some (match a with | .non => false | _ => true)
    | .bl k => match a with | .bl j => some (!(j == k)) | _ => none
    | _ => none
  | .isin => match a, b with
    | .str [c], .str y => some (decide (c ∈ y))
    | a, b => match seqI s b with
      | some ys => if memOk a ys then some (ys.any fun y => weq y a) else none
      | none => none
  | .notin => match a, b with
    | .str [c], .str y => some (!decide (c ∈ y))
    | a, b => match seqI s b with
      | some ys => if memOk a ys then some (!ys.any fun y => weq y a) else none
      | none => none

/-- a look-up of a dict with texts as keys -/
def look (k : List Nat) : List (List Nat) → List W → Option W
  | a :: ks, v :: vs => if a = k then some v else look k ks vs
  | _, _ => none
def item (a b : W) (s : ST) : Option W :=
  match a, b with
  | .str x, .int i => if x.length ≤ line then ((ixOf i x.length).bind fun j => x[j]?).map fun c => .str [c] else none
  | .dct ks vs, .str k => look k ks vs
  | a, .int i => (seqI s a).bind fun xs => (ixOf i xs.length).bind fun j => xs[j]?
  | _, _ => none
def slice (a : W) (lo hi : Option Int) (s : ST) : Option W :=
  match a with
  | .str x => if x.length ≤ line then some (.str (cut x lo hi)) else none
  | .tup xs => some (.tup (cut xs lo hi))
  | a => (seqL s a).map fun xs => .lst (cut xs lo hi)

def lmax : List Int → Option Int
  | [] => none
  | x :: xs => some (xs.foldl (fun a b => if a < b then b else a) x)
def lmin : List Int → Option Int
  | [] => none
  | x :: xs => some (xs.foldl (fun a b => if b < a then b else a) x)
def sins (x : List Nat) : List (List Nat) → List (List Nat)
  | [] => [x]
  | y :: ys => if slt y x then y :: sins x ys else x :: y :: ys
def ssort : List (List Nat) → List (List Nat)
  | [] => []
  | x :: xs => sins x (ssort xs)
/-- the pairs of a dict -/
def pairsOf : List W → Option (List (List Nat × W))
  | [] => some []
  | .tup [.str k, v] :: r => (pairsOf r).map ((k, v) :: ·)
  | .htup [.str k, v] :: r => (pairsOf r).map ((k, v) :: ·)
  | _ => none
/-- pairs (int, text) -/
def ispairs : List W → Option (List (Int × List Nat))
  | [] => some []
  | .tup [.int i, .str k] :: r => (ispairs r).map ((i, k) :: ·)
  | _ => none
def plt (a b : Int × List Nat) : Bool := if a.1 < b.1 then true else if b.1 < a.1 then false else slt a.2 b.2
def pmax : List (Int × List Nat) → Option (Int × List Nat)
  | [] => none
  | x :: xs => some (xs.foldl (fun a b => if plt a b then b else a) x)
def putS (k : List Nat) (v : W) (l : List (List Nat × W)) : List (List Nat × W) :=
  if (l.any fun p => decide (p.1 = k)) = true then l.map (fun p => if p.1 = k then (p.1, v) else p) else l ++ [(k, v)]
def dictOf (ps : List (List Nat × W)) : List (List Nat × W) := ps.foldl (fun d p => putS p.1 p.2 d) []

/-- how many unlike texts a row brings to those seen -/
def unl (seen : List (List Nat)) : List (List Nat) → Nat
  | [] => 0
  | k :: ks => (if k ∈ seen then 0 else 1) + unl (seen ++ [k]) ks
def nodupS : List (List Nat) → Nat
  | [] => 0
  | x :: xs => if x ∈ xs then nodupS xs else nodupS xs + 1

def isTy (w : W) (t : String) : Option Bool :=
  match t with
  | "int" => match w with | .non => some false | .bl _ => some true | .int _ => some true | .str _ => some false | .tup _ => some false | .htup _ => some false | .lst _ => some false | .ref _ => some false | _ => none
  | "bool" => match w with | .non => some false | .bl _ => some true | .int _ => some false | .str _ => some false | .tup _ => some false | .htup _ => some false | .lst _ => some false | .ref _ => some false | _ => none
  | "str" => match w with | .non => some false | .bl _ => some false | .int _ => some false | .str _ => some true | .tup _ => some false | .htup _ => some false | .lst _ => some false | .ref _ => some false | _ => none
  | "tuple" => match w with | .non => some false | .bl _ => some false | .int _ => some false | .str _ => some false | .tup _ => some true | .htup _ => some true | .lst _ => some false | .ref _ => some false | _ => none
  | "list" => match w with | .non => some false | .bl _ => some false | .int _ => some false | .str _ => some false | .tup _ => some false | .htup _ => some false | .lst _ => some true | .ref _ => some true | _ => none
  | _ => none

def bLen (s : ST) : List W → Option W
  | [.str x] => if x.length ≤ line then some (.int x.length) else none
  | [a] => (seqI s a).map fun xs => .int xs.length
  | _ => none
def bAbs : List W → Option W
  | [.int i] => some (.int (if i < 0 then -i else i))
  | _ => none
def bInt : List W → Option W
  | [.int i] => some (.int i)
  | [.bl k] => some (.int (if k then 1 else 0))
  | _ => none
def bList (s : ST) : List W → Option W
  | [.scr ns] => some (.lst (ns.map .int))
  | [a] => (seqI s a).map .lst
  | _ => none
def bTuple (s : ST) : List W → Option W
  | [.htup xs] => some (.htup xs)
  | [a] => (seqI s a).map .tup
  | _ => none
def bHtuple (s : ST) : List W → Option W
  | [a] => (seqL s a).map .htup
  | _ => none
def bStr : List W → Option W
  | [.int i] => if -big < i ∧ i < big then some (.str (intStr i)) else none
  | [.str l] => some (.str l)
  | _ => none
def bSorted (s : ST) : List W → Option W
  | [a] => (seqL s a).bind fun xs => (strsW xs).bind fun ns => if ns.length < 64 then some (.lst ((ssort ns).map .str)) else none
  | _ => none
def bUnl (s : ST) : List W → Option W
  | [a] => (seqI s a).bind fun xs => (strsW xs).bind fun ns => if ns.length < 4000 then some (.int (unl [] ns)) else none
  | _ => none
def dctOf (ps : List (List Nat × W)) : W := .dct ((dictOf ps).map (·.1)) ((dictOf ps).map (·.2))
def bDict (s : ST) : List W → Option W
  | [.htup xs] => (pairsOf xs).map dctOf
  | [a] => (seqL s a).bind fun xs => (pairsOf xs).map dctOf
  | _ => none
/-- a row cut with a step -/
def cutX {α : Type} (xs : List α) (lo hi : Option Int) (st : Int) : List α :=
  (sliceRange (sliceBounds lo hi (some st) xs.length).1 (sliceBounds lo hi (some st) xs.length).2.1 (sliceBounds lo hi (some st) xs.length).2.2).filterMap (xs[·]?)
def bInts (s : ST) (f : List Int → Option Int) : List W → Option W
  | [a] => (seqL s a).bind fun xs => (intsW xs).bind fun ns => (f ns).map .int
  | _ => none
mutual
/-- as data that have an order -/
def toD : W → Option PyData
  | .bl b => some (.bool b)
  | .int i => some (.int i)
  | .str l => some (.str ⟨l.toArray⟩)
  | .tup xs => (toDs xs).map .tuple
  | _ => none
def toDs : List W → Option (List PyData)
  | [] => some []
  | x :: xs => (toD x).bind fun d => (toDs xs).map (d :: ·)
end
def bestW (up : Bool) (x : W) (r : List W) : W := r.foldl (fun a y => match toD a, toD y with
  | some d, some e => if (if up then PySem.W.dataLt d e else PySem.W.dataLt e d) then y else a
  | _, _ => a) x
def bDat (s : ST) (up : Bool) : List W → Option W
  | [a] => (seqL s a).bind fun xs => match xs with
    | [] => none
    | x :: r => (toDs (x :: r)).bind fun ds => if (ds.all fun a => ds.all fun b => PySem.W.alike a b) = true ∧ PyData.depthAll ds ≤ 20 then some (bestW up x r) else none
  | _ => none
/-- max, min: of two ints; of a list of ints, of data -/
def bTwo (s : ST) (g : Int → Int → Int) (f : List Int → Option Int) (up : Bool) : List W → Option W
  | [.int i, .int j] => some (.int (g i j))
  | l => match bInts s f l with
    | some w => some w
    | none => bDat s up l
def bBools (s : ST) (f : List Bool → Bool) : List W → Option W
  | [a] => (seqL s a).bind fun xs => (boolsW xs).map fun bs => .bl (f bs)
  | _ => none
def bIsi : List W → Option W
  | [a, .ty t] => (isTy a t).map .bl
  | _ => none
def biop (b : Bi) (l : List W) (s : ST) : Option W :=
  match b with
  | .len => bLen s l
  | .abs => bAbs l
  | .int => bInt l
  | .list => bList s l
  | .tuple => bTuple s l
  | .max => bTwo s (fun i j => if j > i then j else i) lmax true l
  | .min => bTwo s (fun i j => if j < i then j else i) lmin false l
  | .sum => bInts s (fun ns => some ns.sum) l
  | .all => bBools s (fun bs => bs.all id) l
  | .any => bBools s (fun bs => bs.any id) l
  | .isi => bIsi l
  | .htuple => bHtuple s l
  | .str => bStr l
  | .sorted => bSorted s l
  | .lenset => bUnl s l
  | .dict => bDict s l
  | _ => none

/-- methods: of a list of the store; of a text -/
def mApp (n : Nat) (w : W) : M W := fun s => match s[n]? with
  | some ys => if ys.length < line then .ok .non (s.set n (ys ++ [w])) else .err
  | none => .err
def mPop (n : Nat) (i : Int) : M W := fun s => match s[n]? with
  | some ys => match ixOf i ys.length with
    | some j => match ys[j]? with
      | some y => if -1000000 < i ∧ i < 1000000 then .ok y (s.set n (ys.eraseIdx j)) else .err
      | none => .err
    | none => .err
  | none => .err
def meL (m : Me) (n : Nat) (l : List W) : M W :=
  match m, l with
  | .append, [w] => mApp n w
  | .pop, [.int i] => mPop n i
  | _, _ => fail
def Me.isL : Me → Bool
  | .append => true
  | .pop => true
  | _ => false
def joinS (a : List Nat) : List (List Nat) → List Nat
  | [] => []
  | [p] => p
  | p :: q :: r => p ++ (a ++ joinS a (q :: r))
def meJoin (a : List Nat) (s : ST) : List W → Option W
  | [b] => (seqI s b).bind fun xs => (strsW xs).bind fun ns => if (ns.map (·.length)).sum + ns.length * a.length ≤ line then some (.str (joinS a ns)) else none
  | _ => none
def meS (m : Me) (a : List Nat) (l : List W) : M W :=
  match m with
  | .join => rd fun s => meJoin a s l
  | _ => fail

/-! ### targets -/
mutual
def asg : T → W → Env → Option Env
  | .v i, w, env => if i < env.length then some (env.set i (some w)) else none
  | .nil, .tup [], env => some env
  | .cons a b, .tup (w :: ws), env => (asg a w env).bind fun env' => asgs b ws env'
  | .nil, .htup [], env => some env
  | .cons a b, .htup (w :: ws), env => (asg a w env).bind fun env' => asgs b ws env'
  | _, _, _ => none
def asgs : T → List W → Env → Option Env
  | .nil, [], env => some env
  | .cons a b, w :: ws, env => (asg a w env).bind fun env' => asgs b ws env'
  | _, _, _ => none
end
def wipes (env : Env) : List Nat → Env
  | [] => env
  | i :: is => (wipes env is).set i none

/-- what is walked: rows, or a list of the store as it stands at each turn (liveE: with its index) -/
inductive Src where
  | row (xs : List W)
  | live (n : Nat)
  | liveE (n : Nat)

def enumW : Nat → List W → List W
  | _, [] => []
  | i, x :: xs => .tup [.int i, x] :: enumW (i + 1) xs
def zipW : List W → List W → List W
  | x :: xs, y :: ys => .tup [x, y] :: zipW xs ys
  | _, _ => []
def rngW (lo : Int) : Nat → List W
  | 0 => []
  | n + 1 => .int lo :: rngW (lo + 1) n
def small : Int := 1000000000
def rngOf : List W → Option (List W)
  | [.int j] => if -small < j ∧ j < small then some (rngW 0 j.toNat) else none
  | [.int i, .int j] => if -small < i ∧ i < small ∧ -small < j ∧ j < small then some (rngW i (j - i).toNat) else none
  | _ => none
def srcOf : W → Option Src
  | .lst xs => some (.row xs)
  | .tup xs => some (.row xs)
  | .str l => some (.row (l.map fun c => .str [c]))
  | .ref n => some (.live n)
  | _ => none
def srcEnum : W → Option Src
  | .lst xs => some (.row (enumW 0 xs))
  | .ref n => some (.liveE n)
  | _ => none
def srcZip (s : ST) : W → W → Option Src
  | .lst xs, .lst ys => some (.row (zipW xs ys))
  | .tup xs, .tup ys => some (.row (zipW xs ys))
  | _, _ => none
/-- the item of turn i; none: it stops -/
def liveAt (n i : Nat) (s : ST) : Option (Option W) :=
  match s[n]? with
  | some xs => some xs[i]?
  | none => none

def ocons : Option W → List W → List W
  | some y, ys => y :: ys
  | none, ys => ys
/-- a comprehension's rounds -/
def comp (f : W → M (Option W)) : List W → M (List W)
  | [] => ret []
  | x :: xs => bnd (f x) fun o => bnd (comp f xs) fun ys => ret (ocons o ys)
def compL (g : Nat → W → W) (f : W → M (Option W)) (n : Nat) : Nat → Nat → M (List W)
  | 0, _ => fail
  | k + 1, i => bnd (rd (liveAt n i)) fun o => match o with
    | none => ret []
    | some x => bnd (f (g i x)) fun o => bnd (compL g f n k (i + 1)) fun ys => ret (ocons o ys)
def compS (f : W → M (Option W)) (fuel : Nat) : Src → M (List W)
  | .row xs => comp f xs
  | .live n => compL (fun _ x => x) f n fuel 0
  | .liveE n => compL (fun i x => .tup [.int i, x]) f n fuel 0
/-- no error leaves a comprehension -/
def noexc {α : Type} (m : M α) : M α := fun s => match m s with
  | .ok a s' => .ok a s'
  | _ => .err
def fits {α : Type} (m : M (List α)) : M (List α) := bnd m fun xs => if xs.length ≤ line then ret xs else fail

/-- what a program has: constants by number; the fuel of its loops -/
structure Pg where
  defs : List Def
  consts : List W
  fuel : Nat
  told : List (List (Option (List Nat)))

/-- a call that tells which error was met: '' if none -/
def tellM (P : Pg) (n : Nat) (m : M W) : M W := fun s => match m s with
  | .ok _ s' => .ok (.str []) s'
  | .exc c _ s' => match (P.told[n]?.bind fun r => r[c]?).join with
    | some t => .ok (.str t) s'
    | none => .err
  | .err => .err

section
variable (P : Pg)
mutual
def evE (call : Nat → List W → M W) : E → Env → M W
  | .var i, env => opt (match env[i]? with | some (some w) => some w | _ => none)
  | .k w, _ => ret w
  | .glob n, _ => opt P.consts[n]?
  | .fnv n, _ => ret (.fn n)
  | .bin op a b, env => bnd (evE call a env) fun x => bnd (evE call b env) fun y => rd (binop op (soft x) (soft y))
  | .neg a, env => bnd (evE call a env) fun x => match x with | .int i => ret (.int (-i)) | _ => fail
  | .cmp op a b, env => bnd (evE call a env) fun x => bnd (evE call b env) fun y => bnd (rd (cmpop op (soft x) (soft y))) fun r => ret (.bl r)
  | .chain op op' a b c, env => bnd (evE call a env) fun x => bnd (evE call b env) fun y => bnd (rd (cmpop op (soft x) (soft y))) fun r =>
      if r then bnd (evE call c env) fun z => bnd (rd (cmpop op' (soft y) (soft z))) fun r' => ret (.bl r') else ret (.bl false)
  | .and a b, env => bnd (evE call a env) fun x => match x with | .bl true => evE call b env | .bl false => ret (.bl false) | _ => fail
  | .or a b, env => bnd (evE call a env) fun x => match x with | .bl true => ret (.bl true) | .bl false => evE call b env | _ => fail
  | .not a, env => bnd (evE call a env) fun x => match x with | .bl r => ret (.bl (!r)) | _ => fail
  | .ife c a b, env => bnd (evE call c env) fun x => match x with | .bl true => evE call a env | .bl false => evE call b env | _ => fail
  | .tup l, env => bnd (fits (evA call l env)) fun xs => ret (.tup xs)
  | .htup l, env => bnd (fits (evA call l env)) fun xs => ret (.htup xs)
  | .lst l, env => bnd (fits (evA call l env)) fun xs => ret (.lst xs)
  | .mlst l, env => bnd (fits (evA call l env)) fun xs => fun s => .ok (.ref s.length) (s ++ [xs])
  | .ix a b, env => bnd (evE call a env) fun x => bnd (evE call b env) fun y => rd (item (soft x) y)
  | .sl a lo hi, env => bnd (evE call a env) fun x => bnd (evO call lo env) fun l => bnd (evO call hi env) fun h => rd (slice (soft x) l h)
  | .slx a lo hi st, env => bnd (evE call a env) fun x => bnd (evO call lo env) fun l => bnd (evO call hi env) fun h => bnd (rd fun s => seqL s x) fun xs => if st = 0 then fail else ret (.lst (cutX xs l h st))
  | .no, _ => ret .non
  | .rev a, env => bnd (evE call a env) fun x => bnd (rd fun s => seqL s x) fun xs => ret (.lst xs.reverse)
  | .call n l, env => bnd (evA call l env) fun xs => call n xs
  | .bi .mlist l, env => bnd (evA call l env) fun xs => bnd (rd (biop .list xs)) fun w => match w with
      | .lst ys => fun s => .ok (.ref s.length) (s ++ [ys])
      | _ => fail
  | .bi b l, env => bnd (evA call l env) fun xs => rd (biop b xs)
  | .meth m o l, env => bnd (evE call o env) fun x => match m.isL, x with
      | true, .ref n => bnd (evA call l env) fun xs => meL m n xs
      | false, .str a => bnd (evA call l env) fun xs => meS m a xs
      | _, _ => fail
  | .lc t it ifs e own, env => bnd (evI call it env) fun src => bnd (noexc (fits (compS (fun w =>
      match asg t w (wipes env own) with
      | some env' => bnd (evB call ifs env') fun r => if r then bnd (evE call e env') fun y => ret (some y) else ret none
      | none => fail) P.fuel src))) fun ys => ret (.lst ys)
  | .lzip a b, env => bnd (evE call a env) fun x => bnd (evE call b env) fun y => match soft x, soft y with
      | .tup xs, .tup ys => ret (.lst (zipW xs ys))
      | _, _ => fail
  | .lens a, env => bnd (evE call a env) fun x => rd (biop .lenset [x])
  | .lrng l, env => bnd (evA call l env) fun xs => bnd (opt (rngOf xs)) fun ys => ret (.lst ys)
  | .clo n l, env => tellM P n (bnd (call P.defs.length []) fun _ => evE (fun m xs => call (m + (P.defs.length + 1)) xs) l env)
  | _, _ => fail
termination_by structural e => e
def evA (call : Nat → List W → M W) : E → Env → M (List W)
  | .nil, _ => ret []
  | .cons a b, env => bnd (evE call a env) fun x => bnd (evA call b env) fun xs => ret (x :: xs)
  | _, _ => fail
termination_by structural e => e
/-- a bound of a slice -/
def evO (call : Nat → List W → M W) : E → Env → M (Option Int)
  | .no, _ => ret none
  | .itr a, env => bnd (evE call a env) fun x => match x with | .int i => ret (some i) | _ => fail
  | _, _ => fail
termination_by structural e => e
/-- tests one behind the other -/
def evB (call : Nat → List W → M W) : E → Env → M Bool
  | .nil, _ => ret true
  | .cons a b, env => bnd (evE call a env) fun x => match x with | .bl true => evB call b env | .bl false => ret false | _ => fail
  | _, _ => fail
termination_by structural e => e
def evI (call : Nat → List W → M W) : E → Env → M Src
  | .rng l, env => bnd (evA call l env) fun xs => bnd (opt (rngOf xs)) fun ys => ret (.row ys)
  | .enum a, env => bnd (evE call a env) fun x => opt (srcEnum x)
  | .zip a b, env => bnd (evE call a env) fun x => bnd (evE call b env) fun y => rd fun s => srcZip s (soft x) (soft y)
  | .itr a, env => bnd (evE call a env) fun x => opt (srcOf (soft x))
  | _, _ => fail
termination_by structural e => e
end

end

inductive Fl where | nx | rt (w : W) | bk | ct
inductive RS where
  | ok (f : Fl) (env : Env) (s : ST)
  | exc (c : Nat) (l : List W) (env : Env) (s : ST)
  | err
/-- an expression ahead of a statement's rest -/
def eS {α : Type} (m : M α) (env : Env) (f : α → ST → RS) (s : ST) : RS := match m s with
  | .ok a s' => f a s'
  | .exc c l s' => .exc c l env s'
  | .err => .err
def whileS (c : Env → M W) (b : Env → ST → RS) : Nat → Env → ST → RS
  | 0, _, _ => .err
  | n + 1, env, s => eS (c env) env (fun x s' => match x with
    | .bl true => match b env s' with
      | .ok .nx env' s'' => whileS c b n env' s''
      | .ok .ct env' s'' => whileS c b n env' s''
      | .ok .bk env' s'' => .ok .nx env' s''
      | .ok (.rt w) env' s'' => .ok (.rt w) env' s''
      | .exc c l env' s'' => .exc c l env' s''
      | .err => .err
    | .bl false => .ok .nx env s'
    | _ => .err) s
def forS (b : W → Env → ST → RS) : List W → Env → ST → RS
  | [], env, s => .ok .nx env s
  | x :: xs, env, s => match b x env s with
    | .ok .nx env' s' => forS b xs env' s'
    | .ok .ct env' s' => forS b xs env' s'
    | .ok .bk env' s' => .ok .nx env' s'
    | .ok (.rt w) env' s' => .ok (.rt w) env' s'
    | .exc c l env' s' => .exc c l env' s'
    | .err => .err
def forL (g : Nat → W → W) (b : W → Env → ST → RS) (n : Nat) : Nat → Nat → Env → ST → RS
  | 0, _, _, _ => .err
  | k + 1, i, env, s => match liveAt n i s with
    | none => .err
    | some none => .ok .nx env s
    | some (some x) => match b (g i x) env s with
      | .ok .nx env' s' => forL g b n k (i + 1) env' s'
      | .ok .ct env' s' => forL g b n k (i + 1) env' s'
      | .ok .bk env' s' => .ok .nx env' s'
      | .ok (.rt w) env' s' => .ok (.rt w) env' s'
      | .exc c l env' s' => .exc c l env' s'
      | .err => .err
def forA (b : W → Env → ST → RS) (fuel : Nat) : Src → Env → ST → RS
  | .row xs => forS b xs
  | .live n => forL (fun _ x => x) b n fuel 0
  | .liveE n => forL (fun i x => .tup [.int i, x]) b n fuel 0

section
variable (P : Pg) (call : Nat → List W → M W)
def evS : S → Env → ST → RS
  | .nil, env, s => .ok .nx env s
  | .seq a b, env, s => match evS a env s with
    | .ok .nx env' s' => evS b env' s'
    | r => r
  | .asg t e, env, s => eS (evE P call e env) env (fun w s' => match asg t w env with
    | some env' => .ok .nx env' s'
    | none => .err) s
  | .par2 i j a b, env, s => eS (evE P call a env) env (fun x s' => eS (evE P call b env) env (fun y s'' =>
      if i < env.length ∧ j < env.length ∧ i ≠ j then .ok .nx ((env.set i (some x)).set j (some y)) s'' else .err) s') s
  | .par3 i j l a b c, env, s => eS (evE P call a env) env (fun x s' => eS (evE P call b env) env (fun y s'' => eS (evE P call c env) env (fun z s3 =>
      if i < env.length ∧ j < env.length ∧ l < env.length ∧ i ≠ j ∧ i ≠ l ∧ j ≠ l then .ok .nx (((env.set i (some x)).set j (some y)).set l (some z)) s3 else .err) s'') s') s
  | .seti o i e, env, s => eS (evE P call e env) env (fun w s1 => eS (evE P call o env) env (fun x s2 => eS (evE P call i env) env (fun y s3 =>
      match x, y with
      | .ref n, .int k => match s3[n]? with
        | some ys => match ixOf k ys.length with
          | some j => .ok .nx env (s3.set n (ys.set j w))
          | none => .err
        | none => .err
      | _, _ => .err) s2) s1) s
  | .expr e, env, s => eS (evE P call e env) env (fun _ s' => .ok .nx env s') s
  | .rt e, env, s => eS (evE P call e env) env (fun w s' => .ok (.rt w) env s') s
  | .rtn, env, s => .ok (.rt .non) env s
  | .ife c a b, env, s => eS (evE P call c env) env (fun x s' => match x with
    | .bl true => evS a env s'
    | .bl false => evS b env s'
    | _ => .err) s
  | .whl c b, env, s => whileS (fun env => evE P call c env) (fun env s => evS b env s) P.fuel env s
  | .forr t it b, env, s => eS (evI P call it env) env (fun src s' => forA (fun w env s => match asg t w env with
      | some env' => evS b env' s
      | none => .err) P.fuel src env s') s
  | .brk, env, s => .ok .bk env s
  | .cnt, env, s => .ok .ct env s
  | .pass, env, s => .ok .nx env s
  | .raise c l, env, s => eS (evA P call l env) env (fun xs s' => .exc c xs env s') s
end

/-- a def's call; the number behind the defs: whether two more calls have room; those behind it: the defs, two calls deeper -/
def callD (P : Pg) : Nat → Nat → List W → M W
  | 0, _, _ => fail
  | d + 1, n, args => fun s => match P.defs[n]? with
    | none => (match d with
      | 0 => .err
      | d' + 1 => if n = P.defs.length then .ok .non s else callD P d' (n - (P.defs.length + 1)) args s)
    | some df => if args.length = df.np then
        match evS P (callD P d) df.body (args.map some ++ List.replicate (df.nl - df.np) none) s with
        | .ok .nx _ s' => .ok .non s'
        | .ok (.rt w) _ s' => .ok w s'
        | .exc c l _ s' => .exc c l s'
        | _ => .err
      else .err
theorem callD_more (P : Pg) (d : Nat) : (fun m xs => callD P (d + 2) (m + (P.defs.length + 1)) xs) = callD P d := by
  funext m xs s
  have h1 : P.defs[m + (P.defs.length + 1)]? = none := List.getElem?_eq_none (by omega)
  rw [callD]
  simp only [h1]
  rw [if_neg (by omega)]
  congr 1
  omega
theorem callD_gate {P : Pg} {d : Nat} {s s' : ST} {w : W} (h : callD P d P.defs.length [] s = .ok w s') : ∃ k, d = k + 2 ∧ s' = s := by
  have h1 : P.defs[P.defs.length]? = none := List.getElem?_eq_none (Nat.le_refl _)
  match d, h with
  | 0, h => cases h
  | 1, h => rw [callD] at h; simp only [h1] at h; cases h
  | k + 2, h =>
    rw [callD] at h
    simp only [h1, if_true, R.ok.injEq] at h
    exact ⟨k, rfl, h.2.symm⟩
theorem callD_gateX {P : Pg} {d : Nat} {s s' : ST} {c : Nat} {l : List W} : callD P d P.defs.length [] s ≠ .exc c l s' := fun h => by
  have h1 : P.defs[P.defs.length]? = none := List.getElem?_eq_none (Nat.le_refl _)
  match d, h with
  | 0, h => cases h
  | 1, h => rw [callD] at h; simp only [h1] at h; cases h
  | k + 2, h =>
    rw [callD] at h
    simp only [h1, if_true] at h
    cases h
end G

set_option Elab.async false
set_option linter.all false
set_option autoImplicit false
set_option maxRecDepth 100000
set_option maxHeartbeats 2000000
/-! G2: what a value of G is in the heap; operators. -/
namespace G
open PySem L2

def strOf (l : List Nat) : Str := ⟨l.toArray⟩
def okS (l : List Nat) : Prop := ∀ c ∈ l, c < 0x110000

/-- what the values are told over: the written part, where defs stand -/
structure Cn where
  K : PySem.W.Frag
  fa : Nat → Option Addr
  ca : Nat → Option Addr
  xi : Addr → Prop
  T : List (Addr × Str)
/-- an address hidden: no value is told by it -/
def Cn.hide (C : Cn) (D : Addr) : Cn := { C with xi := fun p => C.xi p ∨ p = D }

/-- a list of the written part -/
def KL (K : PySem.W.Frag) (a : Addr) (xs : List V) : Prop := ∃ (o : Obj) (its : Array Value) (n : Nat), K.lookup a = some o ∧ o.cls = .type "list" ∧ o.dict = none ∧ o.data = .seq its n ∧ its.size ≤ sizeLine ∧ Vals xs its.toList
/-- a tuple of the written part -/
def KT (K : PySem.W.Frag) (a : Addr) (xs : List V) : Prop := ∃ (o : Obj) (its : Array Value) (n : Nat), K.lookup a = some o ∧ o.cls = .type "tuple" ∧ o.data = .seq its n ∧ its.size ≤ sizeLine ∧ Vals xs its.toList

section
variable (C : Cn) (ρ : List Addr) (H : Hp)
def Out (p : Addr) : Prop := p ∉ ρ ∧ ¬ C.xi p
def RT (p : Addr) (vs : List V) : Prop := (Out C ρ p ∧ Rd H p (.tup vs)) ∨ KT C.K p vs
mutual
def Rep : W → V → Prop
  | .non, v => v = .non
  | .bl b, v => v = .bl b
  | .int i, v => v = .int i
  | .str l, v => v = .str (strOf l) ∧ okS l
  | .tup xs, v => ∃ p vs, v = .ref p ∧ RT C ρ H p vs ∧ Reps xs vs
  | .htup xs, v => ∃ p vs o, v = .ref p ∧ Out C ρ p ∧ H p = some (.frz o (.tup vs)) ∧ o.dict = none ∧ Reps xs vs
  | .lst xs, v => ∃ p vs, v = .ref p ∧ Out C ρ p ∧ H p = some (.lst vs) ∧ Reps xs vs
  | .dct ks ws, v => ∃ p kvs, v = .ref p ∧ Out C ρ p ∧ H p = some (.dK kvs) ∧ kvs.map (·.1) = ks.map (fun l => Sum.inr (strOf l)) ∧ Reps ws (kvs.map (·.2))
  | .ref n, v => ∃ p, ρ[n]? = some p ∧ v = .ref p
  | .scr ns, v => ∃ p, v = .ref p ∧ ((Out C ρ p ∧ Rd H p (.lst (ns.map V.int))) ∨ KL C.K p (ns.map V.int))
  | .ty s, v => v = .ty s
  | .fn n, v => ∃ f, C.fa n = some f ∧ v = .ref f
def Reps : List W → List V → Prop
  | [], [] => True
  | x :: xs, v :: vs => Rep x v ∧ Reps xs vs
  | _, _ => False
end
/-- the store: each of its lists stands at its own address -/
structure SR (s : ST) : Prop where
  xl : ∀ p, C.xi p → p ∉ ρ ∧ ∃ vs, H p = some (.lst vs)
  tb : LamX.Tabs C.T H
  len : ρ.length = s.length
  nd : ρ.Nodup
  at_ : ∀ (n : Nat) (xs : List W), s[n]? = some xs → ∃ p vs, ρ[n]? = some p ∧ H p = some (.lst vs) ∧ Reps C ρ H xs vs
end

/-- nothing stands there, or a table -/
def Fre (H : Hp) (p : Addr) : Prop := ∀ o, H p = some o → ∃ ps, o = .tbl ps
theorem Fre.of {H : Hp} {p : Addr} (h : H p = none) : Fre H p := fun o e => by rw [h] at e; cases e
theorem Fre.no {H : Hp} {p : Addr} {o : HO} (f : Fre H p) (h : H p = some o) (hn : ∀ ps, o ≠ .tbl ps) : False := by
  obtain ⟨ps, e⟩ := f o h
  exact hn ps e
theorem tabs_new {T : List (Addr × Str)} {H : Hp} {p : Addr} {o : HO} (t : LamX.Tabs T H) (hn : H p = none) : LamX.Tabs T (upd H p o) := t.ext fun b u e => by rw [upd_ne (ne_of_none e hn)]; exact e
theorem tabs_wr {T : List (Addr × Str)} {H : Hp} {p : Addr} {vs xs : List V} (t : LamX.Tabs T H) (hp : H p = some (.lst vs)) : LamX.Tabs T (upd H p (.lst xs)) := fun q hq => by
  obtain ⟨ps, h1, h2, h3⟩ := t q hq
  refine ⟨ps, ?_, h2, fun pos cv hc => ?_⟩
  · rw [upd_ne (fun e => by rw [e, hp] at h1; cases h1)]; exact h1
  · obtain ⟨c, e1, e2⟩ := h3 pos cv hc
    refine ⟨c, e1, ?_⟩
    rw [upd_ne (fun e => by rw [e, hp] at e2; unfold LamX.CodeO at e2; cases e2)]; exact e2
/-- the heap has grown: lists of the store may have changed, all else stands (tables may grow) -/
structure Gr (ρ : List Addr) (H : Hp) (ρ' : List Addr) (H' : Hp) : Prop where
  pre : ∃ more, ρ' = ρ ++ more ∧ ∀ p ∈ more, Fre H p
  keep : ∀ p o, p ∉ ρ → H p = some o → (∀ ps, o ≠ .tbl ps) → H' p = some o
  live : ∀ p, Fre H' p → Fre H p

section
variable {C : Cn} {ρ ρ' ρ'' : List Addr} {H H' H'' : Hp}
theorem Gr.refl : Gr ρ H ρ H := ⟨⟨[], by simp, fun _ h => nomatch h⟩, fun _ _ _ h _ => h, fun _ h => h⟩
theorem Gr.trans (a : Gr ρ H ρ' H') (b : Gr ρ' H' ρ'' H'') : Gr ρ H ρ'' H'' := by
  obtain ⟨⟨m1, e1, f1⟩, k1, l1⟩ := a
  obtain ⟨⟨m2, e2, f2⟩, k2, l2⟩ := b
  refine ⟨⟨m1 ++ m2, by rw [e2, e1, List.append_assoc], fun p hp => ?_⟩, fun p o hp ho hn => ?_, fun p h => l1 p (l2 p h)⟩
  · rcases List.mem_append.mp hp with h | h
    · exact f1 p h
    · exact l1 p (f2 p h)
  · refine k2 p o (fun hm => ?_) (k1 p o hp ho hn) hn
    rw [e1] at hm
    rcases List.mem_append.mp hm with h | h
    · exact hp h
    · exact (f1 p h).no ho hn
theorem Gr.out (g : Gr ρ H ρ' H') {p : Addr} {o : HO} (hp : p ∉ ρ) (ho : H p = some o) (hn : ∀ ps, o ≠ .tbl ps := by intro ps q; cases q) : p ∉ ρ' := fun hm => by
  obtain ⟨m, e, f⟩ := g.pre
  rw [e] at hm
  rcases List.mem_append.mp hm with h | h
  · exact hp h
  · exact (f p h).no ho hn
theorem Gr.get (g : Gr ρ H ρ' H') {n : Nat} {p : Addr} (h : ρ[n]? = some p) : ρ'[n]? = some p := by
  obtain ⟨m, e, f⟩ := g.pre
  rw [e, List.getElem?_append_left (List.getElem?_eq_some_iff.mp h).1]
  exact h
theorem Gr.out' (g : Gr ρ H ρ' H') {p : Addr} {o : HO} (hp : Out C ρ p) (ho : H p = some o) (hn : ∀ ps, o ≠ .tbl ps := by intro ps q; cases q) : Out C ρ' p := ⟨g.out hp.1 ho hn, hp.2⟩
theorem Rd.out {p : Addr} {u : HO} (g : Gr ρ H ρ' H') (hp : Out C ρ p) (h : Rd H p u) (hu : ∀ ps, u ≠ .tbl ps) : Out C ρ' p ∧ Rd H' p u := by
  rcases h with h | ⟨o, h⟩
  · exact ⟨g.out' hp h hu, .inl (g.keep p _ hp.1 h hu)⟩
  · exact ⟨g.out' hp h, .inr ⟨o, g.keep p _ hp.1 h (fun _ q => by cases q)⟩⟩
theorem RT.mono {p : Addr} {vs : List V} (g : Gr ρ H ρ' H') (h : RT C ρ H p vs) : RT C ρ' H' p vs := by
  rcases h with ⟨h1, h2⟩ | h
  · exact .inl (Rd.out g h1 h2 (fun _ q => by cases q))
  · exact .inr h
mutual
theorem Rep.mono (g : Gr ρ H ρ' H') : ∀ (w : W) (v : V), Rep C ρ H w v → Rep C ρ' H' w v
  | .non, v, h => by simpa only [Rep] using h
  | .bl b, v, h => by simpa only [Rep] using h
  | .int i, v, h => by simpa only [Rep] using h
  | .str l, v, h => by simpa only [Rep] using h
  | .tup xs, v, h => by
    simp only [Rep] at h ⊢
    obtain ⟨p, vs, e, r, q⟩ := h
    exact ⟨p, vs, e, r.mono g, Reps.mono g xs vs q⟩
  | .htup xs, v, h => by
    simp only [Rep] at h ⊢
    obtain ⟨p, vs, o, e, n, r, hd, q⟩ := h
    exact ⟨p, vs, o, e, g.out' n r, g.keep p _ n.1 r (fun _ q => by cases q), hd, Reps.mono g xs vs q⟩
  | .lst xs, v, h => by
    simp only [Rep] at h ⊢
    obtain ⟨p, vs, e, n, r, q⟩ := h
    exact ⟨p, vs, e, g.out' n r, g.keep p _ n.1 r (fun _ q => by cases q), Reps.mono g xs vs q⟩
  | .dct ks ws, v, h => by
    simp only [Rep] at h ⊢
    obtain ⟨p, kvs, e, n, r, hk, q⟩ := h
    exact ⟨p, kvs, e, g.out' n r, g.keep p _ n.1 r (fun _ q => by cases q), hk, Reps.mono g ws _ q⟩
  | .ref n, v, h => by
    simp only [Rep] at h ⊢
    obtain ⟨p, e, q⟩ := h
    exact ⟨p, g.get e, q⟩
  | .scr ns, v, h => by
    simp only [Rep] at h ⊢
    obtain ⟨p, e, ⟨n, r⟩ | r⟩ := h
    · exact ⟨p, e, .inl (Rd.out g n r (fun _ q => by cases q))⟩
    · exact ⟨p, e, .inr r⟩
  | .ty s, v, h => by simpa only [Rep] using h
  | .fn n, v, h => by simpa only [Rep] using h
theorem Reps.mono (g : Gr ρ H ρ' H') : ∀ (ws : List W) (vs : List V), Reps C ρ H ws vs → Reps C ρ' H' ws vs
  | [], [], _ => by simp only [Reps]
  | [], _ :: _, h => by simp only [Reps] at h
  | _ :: _, [], h => by simp only [Reps] at h
  | x :: xs, v :: vs, h => by
    simp only [Reps] at h ⊢
    exact ⟨Rep.mono g x v h.1, Reps.mono g xs vs h.2⟩
end
theorem Reps.length : ∀ {ws : List W} {vs : List V}, Reps C ρ H ws vs → ws.length = vs.length
  | [], [], _ => rfl
  | [], _ :: _, h => by simp only [Reps] at h
  | _ :: _, [], h => by simp only [Reps] at h
  | x :: xs, v :: vs, h => by
    simp only [Reps] at h
    simp [Reps.length h.2]
theorem Reps.get : ∀ {ws : List W} {vs : List V} {i : Nat} {w : W}, Reps C ρ H ws vs → ws[i]? = some w → ∃ v, vs[i]? = some v ∧ Rep C ρ H w v
  | [], _, _, _, _, e => by simp at e
  | _ :: _, [], _, _, h, _ => by simp only [Reps] at h
  | x :: xs, v :: vs, 0, w, h, e => by
    simp only [Reps] at h
    simp at e; subst e
    exact ⟨v, rfl, h.1⟩
  | x :: xs, v :: vs, i + 1, w, h, e => by
    simp only [Reps] at h
    obtain ⟨u, e1, r⟩ := Reps.get (i := i) h.2 (by simpa using e)
    exact ⟨u, by simpa using e1, r⟩
theorem Reps.app : ∀ {ws us : List W} {vs xs : List V}, Reps C ρ H ws vs → Reps C ρ H us xs → Reps C ρ H (ws ++ us) (vs ++ xs)
  | [], _, [], _, _, h => h
  | [], _, _ :: _, _, h, _ => by simp only [Reps] at h
  | _ :: _, _, [], _, h, _ => by simp only [Reps] at h
  | x :: xs, us, v :: vs, ys, h, q => by
    simp only [Reps, List.cons_append] at h ⊢
    exact ⟨h.1, Reps.app h.2 q⟩
theorem Reps.take : ∀ {ws : List W} {vs : List V} (n : Nat), Reps C ρ H ws vs → Reps C ρ H (ws.take n) (vs.take n)
  | _, _, 0, _ => by simp only [List.take_zero, Reps]
  | [], [], _ + 1, _ => by simp only [List.take_nil, Reps]
  | [], _ :: _, _, h => by simp only [Reps] at h
  | _ :: _, [], _, h => by simp only [Reps] at h
  | x :: xs, v :: vs, n + 1, h => by
    simp only [Reps, List.take_succ_cons] at h ⊢
    exact ⟨h.1, Reps.take n h.2⟩
theorem Reps.drop : ∀ {ws : List W} {vs : List V} (n : Nat), Reps C ρ H ws vs → Reps C ρ H (ws.drop n) (vs.drop n)
  | _, _, 0, h => h
  | [], [], _ + 1, h => h
  | [], _ :: _, _, h => by simp only [Reps] at h
  | _ :: _, [], _, h => by simp only [Reps] at h
  | x :: xs, v :: vs, n + 1, h => by
    simp only [Reps, List.drop_succ_cons] at h ⊢
    exact Reps.drop n h.2
theorem Reps.set : ∀ {ws : List W} {vs : List V} (i : Nat) {w : W} {v : V}, Reps C ρ H ws vs → Rep C ρ H w v → Reps C ρ H (ws.set i w) (vs.set i v)
  | [], [], _, _, _, h, _ => h
  | [], _ :: _, _, _, _, h, _ => by simp only [Reps] at h
  | _ :: _, [], _, _, _, h, _ => by simp only [Reps] at h
  | x :: xs, v :: vs, 0, _, _, h, q => by
    simp only [Reps, List.set_cons_zero] at h ⊢
    exact ⟨q, h.2⟩
  | x :: xs, v :: vs, i + 1, _, _, h, q => by
    simp only [Reps, List.set_cons_succ] at h ⊢
    exact ⟨h.1, Reps.set i h.2 q⟩
theorem Reps.erase : ∀ {ws : List W} {vs : List V} (i : Nat), Reps C ρ H ws vs → Reps C ρ H (ws.eraseIdx i) (vs.eraseIdx i)
  | [], [], _, h => h
  | [], _ :: _, _, h => by simp only [Reps] at h
  | _ :: _, [], _, h => by simp only [Reps] at h
  | x :: xs, v :: vs, 0, h => by
    simp only [Reps, List.eraseIdx_cons_zero] at h ⊢
    exact h.2
  | x :: xs, v :: vs, i + 1, h => by
    simp only [Reps, List.eraseIdx_cons_succ] at h ⊢
    exact ⟨h.1, Reps.erase i h.2⟩
theorem Reps.rev : ∀ {ws : List W} {vs : List V}, Reps C ρ H ws vs → Reps C ρ H ws.reverse vs.reverse
  | [], [], h => h
  | [], _ :: _, h => by simp only [Reps] at h
  | _ :: _, [], h => by simp only [Reps] at h
  | x :: xs, v :: vs, h => by
    simp only [Reps, List.reverse_cons] at h ⊢
    exact Reps.app (Reps.rev h.2) (by simp only [Reps]; exact ⟨h.1, trivial⟩)
theorem Reps.one {w : W} {v : V} (h : Rep C ρ H w v) : Reps C ρ H [w] [v] := by simp only [Reps]; exact ⟨h, trivial⟩
theorem Reps.nil' {vs : List V} (h : Reps C ρ H [] vs) : vs = [] := by
  cases vs with
  | nil => rfl
  | cons _ _ => simp only [Reps] at h
theorem Reps.cons' {x : W} {xs : List W} {vs : List V} (h : Reps C ρ H (x :: xs) vs) : ∃ v us, vs = v :: us ∧ Rep C ρ H x v ∧ Reps C ρ H xs us := by
  cases vs with
  | nil => simp only [Reps] at h
  | cons v us => simp only [Reps] at h; exact ⟨v, us, rfl, h.1, h.2⟩
theorem Reps.mk {x : W} {xs : List W} {v : V} {vs : List V} (h : Rep C ρ H x v) (t : Reps C ρ H xs vs) : Reps C ρ H (x :: xs) (v :: vs) := by simp only [Reps]; exact ⟨h, t⟩

/-- the store where its lists stand as they stood -/
theorem SR.mono {s : ST} (S : SR C ρ H s) (g : Gr ρ H ρ H') (h : ∀ p ∈ ρ, H' p = H p) (tb : LamX.Tabs C.T H') : SR C ρ H' s where
  xl := fun p hp => by
    obtain ⟨h1, vs, h2⟩ := S.xl p hp
    exact ⟨h1, vs, g.keep p _ h1 h2 (fun _ q => by cases q)⟩
  tb := tb
  len := S.len
  nd := S.nd
  at_ := fun n xs e => by
    obtain ⟨p, vs, e1, e2, r⟩ := S.at_ n xs e
    exact ⟨p, vs, e1, (h p (List.mem_of_getElem? e1)).trans e2, Reps.mono g xs vs r⟩
theorem SR.some {s : ST} (S : SR C ρ H s) {p : Addr} (hp : p ∈ ρ) : ∃ vs, H p = some (.lst vs) := by
  obtain ⟨n, hn⟩ := List.mem_iff_getElem?.mp hp
  have hl : n < s.length := by rw [← S.len]; exact (List.getElem?_eq_some_iff.mp hn).1
  obtain ⟨q, vs, e1, e2, _⟩ := S.at_ n s[n] (List.getElem?_eq_getElem hl)
  rw [hn] at e1; cases e1
  exact ⟨vs, e2⟩
/-- a new object -/
theorem Gr.new {p : Addr} {o : HO} (hn : H p = none) : Gr ρ H ρ (upd H p o) := by
  refine ⟨⟨[], by simp, fun _ h => nomatch h⟩, fun q u _ h _ => ?_, fun q h => ?_⟩
  · rw [upd_ne (ne_of_none h hn)]; exact h
  · by_cases e : q = p
    · subst e; exact Fre.of hn
    · exact fun u hu => h u (by rw [upd_ne e]; exact hu)
theorem SR.new {s : ST} {p : Addr} {o : HO} (S : SR C ρ H s) (hn : H p = none) : SR C ρ (upd H p o) s :=
  S.mono (Gr.new hn) (fun q hq => by
    obtain ⟨vs, e⟩ := S.some hq
    exact upd_ne (ne_of_none e hn)) (tabs_new S.tb hn)
theorem SR.fresh {s : ST} {p : Addr} (S : SR C ρ H s) (hn : H p = none) : p ∉ ρ := fun hp => by
  obtain ⟨vs, e⟩ := S.some hp
  rw [hn] at e; cases e
theorem SR.fresh' {s : ST} {p : Addr} (S : SR C ρ H s) (hn : H p = none) : Out C ρ p := ⟨S.fresh hn, fun hx => by
  obtain ⟨_, vs, e⟩ := S.xl p hx
  rw [hn] at e; cases e⟩
theorem Rep.newT {s : ST} {p : Addr} {ws : List W} {vs : List V} (S : SR C ρ H s) (hn : H p = none) (r : Reps C ρ H ws vs) : Rep C ρ (upd H p (.tup vs)) (.tup ws) (.ref p) := by
  simp only [Rep]
  exact ⟨p, vs, rfl, .inl ⟨S.fresh' hn, .inl upd_same⟩, Reps.mono (Gr.new hn) ws vs r⟩
theorem Rep.newH {s : ST} {p : Addr} {ws : List W} {vs : List V} {o : Obj} (S : SR C ρ H s) (hn : H p = none) (hd : o.dict = none) (r : Reps C ρ H ws vs) : Rep C ρ (upd H p (.frz o (.tup vs))) (.htup ws) (.ref p) := by
  simp only [Rep]
  exact ⟨p, vs, o, rfl, S.fresh' hn, upd_same, hd, Reps.mono (Gr.new hn) ws vs r⟩
theorem Rep.newL {s : ST} {p : Addr} {ws : List W} {vs : List V} (S : SR C ρ H s) (hn : H p = none) (r : Reps C ρ H ws vs) : Rep C ρ (upd H p (.lst vs)) (.lst ws) (.ref p) := by
  simp only [Rep]
  exact ⟨p, vs, rfl, S.fresh' hn, upd_same, Reps.mono (Gr.new hn) ws vs r⟩

/-- what is wanted of a value -/
def OkP (C : Cn) (ρ : List Addr) (H : Hp) (s : ST) (w : W) (Q : VK) : Prop := ∀ ρ' H' v, Gr ρ H ρ' H' → SR C ρ' H' s → Rep C ρ' H' w v → Q v H'
theorem OkP.here {s : ST} {w : W} {v : V} {Q : VK} (k : OkP C ρ H s w Q) (S : SR C ρ H s) (r : Rep C ρ H w v) : Q v H := k ρ H v Gr.refl S r
theorem OkP.tup {s : ST} {ws : List W} {vs : List V} {Q : VK} (k : OkP C ρ H s (.tup ws) Q) (S : SR C ρ H s) (r : Reps C ρ H ws vs) : ∀ p, H p = none → Q (.ref p) (upd H p (.tup vs)) :=
  fun p hn => k ρ _ _ (Gr.new hn) (S.new hn) (Rep.newT S hn r)
theorem OkP.htup {s : ST} {ws : List W} {vs : List V} {Q : VK} (k : OkP C ρ H s (.htup ws) Q) (S : SR C ρ H s) (r : Reps C ρ H ws vs) : ∀ p o, H p = none → o.dict = none → Q (.ref p) (upd H p (.frz o (.tup vs))) :=
  fun p o hn hd => k ρ _ _ (Gr.new hn) (S.new hn) (Rep.newH S hn hd r)
theorem OkP.lst {s : ST} {ws : List W} {vs : List V} {Q : VK} (k : OkP C ρ H s (.lst ws) Q) (S : SR C ρ H s) (r : Reps C ρ H ws vs) : ∀ p, H p = none → Q (.ref p) (upd H p (.lst vs)) :=
  fun p hn => k ρ _ _ (Gr.new hn) (S.new hn) (Rep.newL S hn r)
theorem OkP.mono {s : ST} {w : W} {Q : VK} (k : OkP C ρ H s w Q) (g : Gr ρ H ρ' H') : OkP C ρ' H' s w Q := fun ρ2 H2 v g2 S r => k ρ2 H2 v (g.trans g2) S r

/-! ### an address hidden -/
section
variable {D : Addr}
theorem Out.hide {p : Addr} {o : HO} (hD : Fre H D) (h : Out C ρ p) (e : H p = some o) (hn : ∀ ps, o ≠ .tbl ps := by intro ps q; cases q) : Out (C.hide D) ρ p := ⟨h.1, fun q => q.elim h.2 (fun q => by subst q; exact hD.no e hn)⟩
theorem Out.show {p : Addr} (h : Out (C.hide D) ρ p) : Out C ρ p := ⟨h.1, fun q => h.2 (.inl q)⟩
theorem Rd.get {p : Addr} {u : HO} (h : Rd H p u) (hu : ∀ ps, u ≠ .tbl ps := by intro ps q; cases q) : ∃ o, H p = some o ∧ ∀ ps, o ≠ .tbl ps := by
  rcases h with h | ⟨o, h⟩
  · exact ⟨_, h, hu⟩
  · exact ⟨_, h, fun _ q => by cases q⟩
mutual
theorem Rep.hide (hD : Fre H D) : ∀ (w : W) (v : V), Rep C ρ H w v → Rep (C.hide D) ρ H w v
  | .non, v, h => by simpa only [Rep] using h
  | .bl b, v, h => by simpa only [Rep] using h
  | .int i, v, h => by simpa only [Rep] using h
  | .str l, v, h => by simpa only [Rep] using h
  | .tup xs, v, h => by
    simp only [Rep] at h ⊢
    obtain ⟨p, vs, e, r, q⟩ := h
    refine ⟨p, vs, e, ?_, Reps.hide hD xs vs q⟩
    rcases r with ⟨o, r⟩ | r
    · obtain ⟨u, hu, hn⟩ := Rd.get r
      exact .inl ⟨o.hide hD hu hn, r⟩
    · exact .inr r
  | .htup xs, v, h => by
    simp only [Rep] at h ⊢
    obtain ⟨p, vs, o, e, n, r, hd, q⟩ := h
    exact ⟨p, vs, o, e, n.hide hD r, r, hd, Reps.hide hD xs vs q⟩
  | .lst xs, v, h => by
    simp only [Rep] at h ⊢
    obtain ⟨p, vs, e, n, r, q⟩ := h
    exact ⟨p, vs, e, n.hide hD r, r, Reps.hide hD xs vs q⟩
  | .dct ks ws, v, h => by
    simp only [Rep] at h ⊢
    obtain ⟨p, kvs, e, n, r, hk, q⟩ := h
    exact ⟨p, kvs, e, n.hide hD r, r, hk, Reps.hide hD ws _ q⟩
  | .ref n, v, h => by simpa only [Rep] using h
  | .scr ns, v, h => by
    simp only [Rep] at h ⊢
    obtain ⟨p, e, ⟨n, r⟩ | r⟩ := h
    · obtain ⟨u, hu, hn⟩ := Rd.get r
      exact ⟨p, e, .inl ⟨n.hide hD hu hn, r⟩⟩
    · exact ⟨p, e, .inr r⟩
  | .ty s, v, h => by simpa only [Rep] using h
  | .fn n, v, h => by simpa only [Rep, Cn.hide] using h
theorem Reps.hide (hD : Fre H D) : ∀ (ws : List W) (vs : List V), Reps C ρ H ws vs → Reps (C.hide D) ρ H ws vs
  | [], [], _ => by simp only [Reps]
  | [], _ :: _, h => by simp only [Reps] at h
  | _ :: _, [], h => by simp only [Reps] at h
  | x :: xs, v :: vs, h => by
    simp only [Reps] at h ⊢
    exact ⟨Rep.hide hD x v h.1, Reps.hide hD xs vs h.2⟩
end
mutual
theorem Rep.show : ∀ (w : W) (v : V), Rep (C.hide D) ρ H w v → Rep C ρ H w v
  | .non, v, h => by simpa only [Rep] using h
  | .bl b, v, h => by simpa only [Rep] using h
  | .int i, v, h => by simpa only [Rep] using h
  | .str l, v, h => by simpa only [Rep] using h
  | .tup xs, v, h => by
    simp only [Rep] at h ⊢
    obtain ⟨p, vs, e, r, q⟩ := h
    refine ⟨p, vs, e, ?_, Reps.show xs vs q⟩
    rcases r with ⟨o, r⟩ | r
    · exact .inl ⟨o.show, r⟩
    · exact .inr r
  | .htup xs, v, h => by
    simp only [Rep] at h ⊢
    obtain ⟨p, vs, o, e, n, r, hd, q⟩ := h
    exact ⟨p, vs, o, e, n.show, r, hd, Reps.show xs vs q⟩
  | .lst xs, v, h => by
    simp only [Rep] at h ⊢
    obtain ⟨p, vs, e, n, r, q⟩ := h
    exact ⟨p, vs, e, n.show, r, Reps.show xs vs q⟩
  | .dct ks ws, v, h => by
    simp only [Rep] at h ⊢
    obtain ⟨p, kvs, e, n, r, hk, q⟩ := h
    exact ⟨p, kvs, e, n.show, r, hk, Reps.show ws _ q⟩
  | .ref n, v, h => by simpa only [Rep] using h
  | .scr ns, v, h => by
    simp only [Rep] at h ⊢
    obtain ⟨p, e, ⟨n, r⟩ | r⟩ := h
    · exact ⟨p, e, .inl ⟨n.show, r⟩⟩
    · exact ⟨p, e, .inr r⟩
  | .ty s, v, h => by simpa only [Rep] using h
  | .fn n, v, h => by simpa only [Rep, Cn.hide] using h
theorem Reps.show : ∀ (ws : List W) (vs : List V), Reps (C.hide D) ρ H ws vs → Reps C ρ H ws vs
  | [], [], _ => by simp only [Reps]
  | [], _ :: _, h => by simp only [Reps] at h
  | _ :: _, [], h => by simp only [Reps] at h
  | x :: xs, v :: vs, h => by
    simp only [Reps] at h ⊢
    exact ⟨Rep.show x v h.1, Reps.show xs vs h.2⟩
end
/-! what stands at the hidden address is changed -/
mutual
theorem Rep.other (o : HO) : ∀ (w : W) (v : V), Rep (C.hide D) ρ H w v → Rep (C.hide D) ρ (upd H D o) w v
  | .non, v, h => by simpa only [Rep] using h
  | .bl b, v, h => by simpa only [Rep] using h
  | .int i, v, h => by simpa only [Rep] using h
  | .str l, v, h => by simpa only [Rep] using h
  | .tup xs, v, h => by
    simp only [Rep] at h ⊢
    obtain ⟨p, vs, e, r, q⟩ := h
    refine ⟨p, vs, e, ?_, Reps.other o xs vs q⟩
    rcases r with ⟨n, r⟩ | r
    · have hp : p ≠ D := fun q => n.2 (.inr q)
      refine .inl ⟨n, ?_⟩
      rcases r with r | ⟨u, r⟩
      · exact .inl (by rw [upd_ne hp]; exact r)
      · exact .inr ⟨u, by rw [upd_ne hp]; exact r⟩
    · exact .inr r
  | .htup xs, v, h => by
    simp only [Rep] at h ⊢
    obtain ⟨p, vs, u, e, n, r, hd, q⟩ := h
    exact ⟨p, vs, u, e, n, by rw [upd_ne (fun q => n.2 (.inr q))]; exact r, hd, Reps.other o xs vs q⟩
  | .lst xs, v, h => by
    simp only [Rep] at h ⊢
    obtain ⟨p, vs, e, n, r, q⟩ := h
    exact ⟨p, vs, e, n, by rw [upd_ne (fun q => n.2 (.inr q))]; exact r, Reps.other o xs vs q⟩
  | .dct ks ws, v, h => by
    simp only [Rep] at h ⊢
    obtain ⟨p, kvs, e, n, r, hk, q⟩ := h
    exact ⟨p, kvs, e, n, by rw [upd_ne (fun q => n.2 (.inr q))]; exact r, hk, Reps.other o ws _ q⟩
  | .ref n, v, h => by simpa only [Rep] using h
  | .scr ns, v, h => by
    simp only [Rep] at h ⊢
    obtain ⟨p, e, ⟨n, r⟩ | r⟩ := h
    · have hp : p ≠ D := fun q => n.2 (.inr q)
      refine ⟨p, e, .inl ⟨n, ?_⟩⟩
      rcases r with r | ⟨u, r⟩
      · exact .inl (by rw [upd_ne hp]; exact r)
      · exact .inr ⟨u, by rw [upd_ne hp]; exact r⟩
    · exact ⟨p, e, .inr r⟩
  | .ty s, v, h => by simpa only [Rep] using h
  | .fn n, v, h => by simpa only [Rep] using h
theorem Reps.other (o : HO) : ∀ (ws : List W) (vs : List V), Reps (C.hide D) ρ H ws vs → Reps (C.hide D) ρ (upd H D o) ws vs
  | [], [], _ => by simp only [Reps]
  | [], _ :: _, h => by simp only [Reps] at h
  | _ :: _, [], h => by simp only [Reps] at h
  | x :: xs, v :: vs, h => by
    simp only [Reps] at h ⊢
    exact ⟨Rep.other o x v h.1, Reps.other o xs vs h.2⟩
end
theorem SR.hide {s : ST} {zs : List V} (S : SR C ρ H s) (hD : H D = none) : SR (C.hide D) ρ (upd H D (.lst zs)) s := by
  have hf := S.fresh hD
  refine ⟨fun p hp => ?_, tabs_new S.tb hD, S.len, S.nd, fun n xs e => ?_⟩
  · rcases hp with hp | rfl
    · obtain ⟨h1, vs, h2⟩ := S.xl p hp
      exact ⟨h1, vs, by rw [upd_ne (ne_of_none h2 hD)]; exact h2⟩
    · exact ⟨hf, zs, upd_same⟩
  · obtain ⟨p, vs, e1, e2, r⟩ := S.at_ n xs e
    have hp : p ≠ D := fun q => hf (q ▸ List.mem_of_getElem? e1)
    exact ⟨p, vs, e1, by rw [upd_ne hp]; exact e2, Reps.other _ _ _ (Reps.hide (Fre.of hD) _ _ r)⟩
theorem SR.other {s : ST} (S : SR (C.hide D) ρ H s) (zs : List V) : SR (C.hide D) ρ (upd H D (.lst zs)) s := by
  obtain ⟨hf, vs0, hv0⟩ := S.xl D (.inr rfl)
  refine ⟨fun p hp => ?_, tabs_wr S.tb hv0, S.len, S.nd, fun n xs e => ?_⟩
  · obtain ⟨h1, vs, h2⟩ := S.xl p hp
    by_cases e : p = D
    · subst e; exact ⟨h1, zs, upd_same⟩
    · exact ⟨h1, vs, by rw [upd_ne e]; exact h2⟩
  · obtain ⟨p, vs, e1, e2, r⟩ := S.at_ n xs e
    have hp : p ≠ D := fun q => hf (q ▸ List.mem_of_getElem? e1)
    exact ⟨p, vs, e1, by rw [upd_ne hp]; exact e2, Reps.other _ _ _ r⟩
theorem SR.show {s : ST} (S : SR (C.hide D) ρ H s) : SR C ρ H s :=
  ⟨fun p hp => S.xl p (.inl hp), S.tb, S.len, S.nd, fun n xs e => by
    obtain ⟨p, vs, e1, e2, r⟩ := S.at_ n xs e
    exact ⟨p, vs, e1, e2, Reps.show _ _ r⟩⟩
/-- seen from where the hidden address was free -/
theorem Gr.past (g : Gr ρ H ρ' H') (hD : H D = none) (hD' : D ∉ ρ') (o : HO) : Gr ρ H ρ' (upd H' D o) := by
  refine ⟨g.pre, fun p u hp e hn => ?_, fun p e => ?_⟩
  · rw [upd_ne (ne_of_none e hD)]; exact g.keep p u hp e hn
  · by_cases q : p = D
    · subst q; exact Fre.of hD
    · exact g.live p fun u hu => e u (by rw [upd_ne q]; exact hu)
end

/-! ### reading the forms -/
theorem Rep.int {i : Int} {v : V} (h : Rep C ρ H (.int i) v) : v = .int i := by simpa only [Rep] using h
theorem Rep.bl {b : Bool} {v : V} (h : Rep C ρ H (.bl b) v) : v = .bl b := by simpa only [Rep] using h
theorem Rep.non {v : V} (h : Rep C ρ H .non v) : v = .non := by simpa only [Rep] using h
theorem Rep.str {l : List Nat} {v : V} (h : Rep C ρ H (.str l) v) : v = .str (strOf l) ∧ okS l := by simpa only [Rep] using h
theorem Rep.mkI {i : Int} : Rep C ρ H (.int i) (.int i) := by simp only [Rep]
theorem Rep.mkB {b : Bool} : Rep C ρ H (.bl b) (.bl b) := by simp only [Rep]
theorem Rep.mkN : Rep C ρ H .non .non := by simp only [Rep]
theorem Rep.mkS {l : List Nat} (h : okS l) : Rep C ρ H (.str l) (.str (strOf l)) := by unfold Rep; exact ⟨rfl, h⟩
theorem RT.sq {p : Addr} {vs : List V} (h : RT C ρ H p vs) : SqT C.K H p vs := by
  rcases h with ⟨_, h⟩ | h
  · exact .inl h
  · exact .inr h
theorem Rep.tup {xs : List W} {v : V} (h : Rep C ρ H (.tup xs) v) : ∃ p vs, v = .ref p ∧ RT C ρ H p vs ∧ Reps C ρ H xs vs := by simpa only [Rep] using h
theorem Rep.soft : ∀ (a : W) (v : V), Rep C ρ H a v → Rep C ρ H (soft a) v
  | .htup xs, v, h => by
    simp only [G.soft]
    simp only [Rep] at h ⊢
    obtain ⟨p, vs, o, e, n, r, hd, q⟩ := h
    exact ⟨p, vs, e, .inl ⟨n, .inr ⟨o, r⟩⟩, q⟩
  | .non, v, h | .bl _, v, h | .int _, v, h | .str _, v, h | .tup _, v, h | .lst _, v, h | .dct _ _, v, h | .ref _, v, h | .scr _, v, h | .ty _, v, h | .fn _, v, h => h
theorem seqL_rep {s : ST} {a : W} {v : V} {xs : List W} (S : SR C ρ H s) (r : Rep C ρ H a v) (h : seqL s a = some xs) : ∃ p vs, v = .ref p ∧ H p = some (.lst vs) ∧ Reps C ρ H xs vs := by
  cases a with
  | lst ys =>
    simp only [seqL, Option.some.injEq] at h; subst h
    simp only [Rep] at r
    obtain ⟨p, vs, e, _, e2, q⟩ := r
    exact ⟨p, vs, e, e2, q⟩
  | ref n =>
    simp only [seqL] at h
    simp only [Rep] at r
    obtain ⟨p, e, rfl⟩ := r
    obtain ⟨q, vs, e1, e2, r⟩ := S.at_ n xs h
    rw [e] at e1; cases e1
    exact ⟨p, vs, rfl, e2, r⟩
  | _ => simp [seqL] at h
theorem seqI_rep {s : ST} {a : W} {v : V} {xs : List W} (S : SR C ρ H s) (r : Rep C ρ H a v) (h : seqI s a = some xs) : ∃ p vs, v = .ref p ∧ (SqL C.K H p vs ∨ SqT C.K H p vs) ∧ Reps C ρ H xs vs := by
  cases a with
  | lst ys =>
    obtain ⟨p, vs, e, e2, q⟩ := seqL_rep (xs := xs) S r h
    exact ⟨p, vs, e, .inl (SqL.of e2), q⟩
  | ref n =>
    obtain ⟨p, vs, e, e2, q⟩ := seqL_rep (xs := xs) S r h
    exact ⟨p, vs, e, .inl (SqL.of e2), q⟩
  | tup ys =>
    simp only [seqI, Option.some.injEq] at h; subst h
    obtain ⟨p, vs, e, q, r⟩ := Rep.tup r
    exact ⟨p, vs, e, .inr q.sq, r⟩
  | htup ys =>
    simp only [seqI, Option.some.injEq] at h; subst h
    obtain ⟨p, vs, e, q, r⟩ := Rep.tup (Rep.soft (.htup ys) _ r)
    exact ⟨p, vs, e, .inr q.sq, r⟩
  | _ => simp [seqI] at h
end
end G

set_option Elab.async false
set_option linter.all false
set_option autoImplicit false
set_option maxRecDepth 100000
set_option maxHeartbeats 4000000
/-! GN: rules that the layer lacks. -/
namespace GN
open PySem PySem.Spec PyProof.Rows L2
/-- how many unlike texts a row brings to those seen -/
def unlike (seen : List Str) : List Str → Nat
  | [] => 0
  | k :: ks => (if seen.contains k then 0 else 1) + unlike (seen ++ [k]) ks
theorem unlike_le : ∀ (ks seen : List Str), unlike seen ks ≤ ks.length
  | [], _ => Nat.le_refl _
  | k :: ks, seen => by
    have := unlike_le ks (seen ++ [k])
    simp only [unlike, List.length_cons]
    split <;> omega
section
variable {prog : Program} {w : World} {A : Around} {R : Result → Shared → Prop} {I : Addr} {fp wr : List Addr} {G : Array GenState → Array GenState → Prop} {P : Nat → Value → Prop} {St : Nat → Shared → Prop}
/-- the rounds that fill a set with the texts of a walk -/
theorem fill {D : Addr} {all : List Str} (W : WalksS prog w A.in1 I fp wr G all.length P St) (off : D ∉ fp) (few : all.length < 4000) (told : ∀ i v, P i v → ∃ x t, all[i]? = some x ∧ v = .str x t) :
    ∀ (todo seen : List Str) (n : Nat) (s : Shared), all = seen ++ todo → n ≤ seen.length → St seen.length s → s.heap.SetOf (PySem.strKind prog w) D (fun k => seen.contains k) n →
      (∀ s2, Moved (D :: wr) G s s2 → s2.heap.SetOf (PySem.strKind prog w) D (fun k => all.contains k) (n + unlike seen todo) → R (.ok (.ret .none)) s2) →
      codeAny (model prog w) A (.builtin "set.update.loop" ⟨[.ref D, .ref I], []⟩) R s := by
  have offw : D ∉ wr := fun q => off (W.sub _ q)
  have wide : ∀ b ∈ wr, b ∈ D :: wr := fun b q => .tail _ q
  have stay : ∀ {h h2 : Heap} {S : Str → Bool} {m : Nat}, (∀ o, h.get? D = some o → h2.get? D = some o) → h.SetOf (PySem.strKind prog w) D S m → h2.SetOf (PySem.strKind prog w) D S m := fun hk ⟨o, es, ep, t, e, r⟩ => ⟨o, es, ep, t, hk o e, r⟩
  intro todo
  induction todo with
  | nil =>
    intro seen n s ea hn st hs hR
    rw [List.append_nil] at ea
    subst ea
    refine codeAny_builtin PyProof.Rows.F.entry_set_update_loop ?_
    rw [Around.under_plainId PyProof.Rows.F.plain_set_update_loop _]
    show wpAny _ A.in1 (pyNext (.ref I) >>= _) _ _ s
    refine wpAny_bind (W.done s _ _ st fun s2 mv => ?_)
    exact wpAny_pure (hR s2 (mv.mono wide) (stay (fun o e => mv.heap D o offw e) hs))
  | cons x todo ih =>
    intro seen n s ea hn st hs hR
    have hlen : all.length = seen.length + (todo.length + 1) := by rw [ea]; simp
    refine codeAny_builtin PyProof.Rows.F.entry_set_update_loop ?_
    rw [Around.under_plainId PyProof.Rows.F.plain_set_update_loop _]
    show wpAny _ A.in1 (pyNext (.ref I) >>= _) _ _ s
    refine wpAny_bind (W.item _ s _ _ (by omega) st fun v s2 hv st2 mv => ?_)
    obtain ⟨y, t, ey, rfl⟩ := told _ _ hv
    have exy : y = x := by
      rw [ea] at ey
      simpa using ey.symm
    subst exy
    have hs2 := stay (fun o e => mv.heap D o offw e) hs
    show wpAny _ A.in1 (holding [Value.str y t] (setAdd D (.str y t)) >>= _) _ _ s2
    refine wpAny_bind (wpAny_holding ?_)
    unfold setAdd
    refine wpAny_holding (wpAny_bind ((PySem.strKind prog w).pyHash (k := y) (strKind_is _ _ _ _) ?_))
    refine wpAny_setAddHashed_of (knd := PySem.strKind prog w) (s := { s2 with toks := s2.toks + 1 }) (strKind_is _ _ _ _) rfl hs2 (by unfold scanBound; omega) fun h3 same hs3 => ?_
    have e3 : h3.SetOf (PySem.strKind prog w) D (fun k => (seen ++ [y]).contains k) (n + (if seen.contains y then 0 else 1)) := by
      refine SetOf_congr hs3 (fun k => ?_) (by split <;> rfl)
      simp only [List.contains_eq_mem, List.mem_append, List.mem_singleton, Bool.decide_or]
    refine wpAny_pure ⟨plainId_quiet PyProof.Rows.F.plain_set_update_loop _, ih (seen ++ [y]) _ _ (by rw [ea]; simp) (by rw [List.length_append, List.length_singleton]; split <;> omega) ?_ e3 fun s4 mv4 hs4 => ?_⟩
    · rw [List.length_append, List.length_singleton]
      refine W.frame _ s2 _ _ st2 (Nat.le_succ _) fun b hb o e => ?_
      rw [same.2 b (fun q => off (q ▸ hb))]; exact e
    · refine hR s4 (Moved.trans W.gtrans ((mv.mono wide).then_heap (Nat.le_succ _) fun b o hb e => ?_) mv4) ?_
      · rw [same.2 b (fun q => hb (q ▸ List.mem_cons_self))]; exact e
      · rw [unlike, ← Nat.add_assoc]; exact hs4
end
end GN
namespace GN
open PySem PySem.Spec PyProof.Rows L2
section
variable {prog : Program} {w : World} {A : Around} {E : Value → Shared → Prop} {s : Shared}
theorem texts_at : ∀ {us : List Value} {xs : List Str}, StrsAre us xs → ∀ (i : Nat) (v : Value), us[i]? = some v → ∃ x t, xs[i]? = some x ∧ v = .str x t
  | _, _, .nil, _, _, h => by cases h
  | _, _, .cons x t r, 0, v, h => ⟨x, t, rfl, (Option.some.inj h).symm⟩
  | _, _, .cons x t r, i + 1, v, h => texts_at r i v h
/-- a class of the built-ins called, its __init__ checked by a rule of its own -/
theorem call_class {T nw ini : String} {Bi : Builtin} {args : List Value} {Q Q1 : Value → Shared → Prop} (ft : TypeCalled T nw ini) (hct : checkTypeCall T ⟨args, []⟩ = pure ()) (ent : entryFor table ini = some Bi)
    (new : codeAny (model prog w) A.in1 (.call (.builtin nw) ⟨.type T :: args, []⟩) (wants Q1 E) s)
    (next : ∀ obj s1, Q1 obj s1 → s1.TypeIs obj T ∧ (∀ (B : Around) (E' : Value → Shared → Prop) (K : Unit → Shared → Prop), K () s1 → wpAny (model prog w) B (checkBuiltinCall ini ⟨obj :: args, []⟩) K E' s1) ∧
      wpAny (model prog w) A.in1.in1 (Bi ⟨obj :: args, []⟩) (fun fin s2 => match fin with | .done f => wants (fun r s3 => r = .none ∧ Q obj s3) E (.ok f) s2 | .again c => c.quiet = true ∧ codeAny (model prog w) A.in1 c (wants (fun r s3 => r = .none ∧ Q obj s3) E) s2)
        (fun e s2 => wants (fun r s3 => r = .none ∧ Q obj s3) E (.error e) s2) s1) : wpAny (model prog w) A (call (.type T) args) Q E s := by
  obtain ⟨cc, more, way⟩ := ft.mro
  have f1 := ft.made
  have f2 := ft.sub
  have f3 := ft.notType
  have f4 := ft.canCreate
  refine wpAny_call (codeAny_of_tree ?_)
  show wpAny _ _ (callAny (.type T) _) _ _ _
  refine wpAny_pure ⟨Code.quiet_builtin _ (by decide +kernel), codeAny_builtin F.entry_type_call ?_⟩
  rw [Around.under_plain (weight_type_call_type T args []) rfl]
  repeat (any_goals (first | assumption | wp_step))
  refine codeAny_mono new fun r s1 h1 => ?_
  rcases r with e | fl
  · exact h1
  rcases fl with _ | _ | _ | obj
  case ret =>
    obtain ⟨tis, chk, body⟩ := next _ _ h1
    have f5 := ft.init.lookup
    have f6 := ft.init.bind obj
    repeat (any_goals (first | assumption | wp_step))
    refine codeAny_mono (codeAny_call_builtin (R := wants (fun r s3 => r = .none ∧ Q obj s3) E) ft.init.plain ent (chk _ _ _ body)) fun r2 s2 h2 => ?_
    rcases r2 with e | fl2
    · exact h2
    rcases fl2 with _ | _ | _ | r
    case ret =>
      obtain ⟨rfl, hq⟩ := h2
      repeat (any_goals (first | assumption | wp_step))
    all_goals exact h2.elim
  all_goals exact h1.elim
/-- set(xs) of a list or a tuple of texts -/
theorem call_set_texts {l : Addr} {its : Array Value} {xs : List Str} {Q : Value → Shared → Prop} (hA : A.handled = none) (hl : s.heap.IsList l its ∨ s.heap.IsTuple l its) (hi : StrsAre its.toList xs) (few : xs.length < 4000)
    (hQ : ∀ h2 tk, h2.SetOf (PySem.strKind prog w) s.heap.objs.size (fun k => xs.contains k) (unlike [] xs) → (∀ b o, s.heap.get? b = some o → h2.get? b = some o) → Q (.ref s.heap.objs.size) { s with heap := h2, toks := tk }) :
    wpAny (model prog w) A (call (.type "set") [.ref l]) Q E s := by
  refine call_class (Q1 := fun obj s1 => ∃ led : Bool, obj = .ref s.heap.objs.size ∧ s1 = { s with heap := s.heap.push { cls := .type "set", dict := none, data := .set #[] 0 (.fresh 0 0 led) } }) PySem.F.called_set (PySem.F.typeCall_set_1 _) PySem.F.entry_set_init
    (code_set_new_1 _ fun led => ⟨led, rfl, rfl⟩) ?_
  rintro obj s1 ⟨led, rfl, rfl⟩
  have at_ : (s.heap.push { cls := .type "set", dict := none, data := .set #[] 0 (.fresh 0 0 led) }).get? s.heap.objs.size = some { cls := .type "set", dict := none, data := .set #[] 0 (.fresh 0 0 led) } := Heap.get?_push_size _ rfl
  have hT : Shared.TypeIs { s with heap := s.heap.push { cls := .type "set", dict := none, data := .set #[] 0 (.fresh 0 0 led) } } (.ref s.heap.objs.size) "set" := ⟨_, at_, rfl⟩
  refine ⟨hT, fun B E' K k => check_set_init_1 hT k, ?_⟩
  have szx : its.size = xs.length := by rw [← StrsAre.len_eq hi, Array.length_toList]
  have told : ∀ (i : Nat) (v : Value), its[i]? = some v → ∃ x t, xs[i]? = some x ∧ v = .str x t := fun i v hv => texts_at hi i v (by rw [Array.getElem?_toList]; exact hv)
  have hh3 : A.in1.in1.in1.handled = none := by simp [hA]
  -- the rounds, where the iterator stands
  have rounds : ∀ {it : Obj} {fp : List Addr} {Sk : Nat → Heap → Prop}, Walks prog w A.in1.in1.in1 (s.heap.objs.size + 1) fp [s.heap.objs.size + 1] its.size (fun i v => its[i]? = some v) Sk → s.heap.objs.size ∉ fp →
      Sk 0 ((s.heap.push { cls := .type "set", dict := none, data := .set #[] 0 (.fresh 0 0 led) }).push it) →
      codeAny (model prog w) A.in1.in1 (.builtin "set.update.loop" ⟨[.ref s.heap.objs.size, .ref (s.heap.objs.size + 1)], []⟩) (wants (fun r s2 => r = .none ∧ Q (.ref s.heap.objs.size) s2) E) { s with heap := (s.heap.push { cls := .type "set", dict := none, data := .set #[] 0 (.fresh 0 0 led) }).push it } := fun {it fp Sk} W off st0 => by
    refine fill (A := A.in1.in1) (all := xs) (szx ▸ W.toS) off few told xs [] 0 _ rfl (Nat.le_refl _) st0 ?_ fun s2 mv hs => ?_
    · have get := Heap.get?_push_of_some it at_
      exact SetOf_congr ((setObjOf_fresh (knd := PySem.strKind prog w) led).setOf get (by unfold scanBound; omega)) (fun _ => rfl) rfl
    · obtain ⟨h2, g2, d2, t2, o2⟩ := s2
      have eg : g2 = s.gens := mv.gens
      have ed : d2 = s.drawn := mv.drawn
      have eo : o2 = s.os := mv.os
      subst eg; subst ed; subst eo
      rw [Nat.zero_add] at hs
      refine ⟨rfl, hQ h2 t2 hs fun b o e => ?_⟩
      have lt := Heap.lt_size e
      refine mv.heap b o ?_ (Heap.get?_push_of_some _ (Heap.get?_push_of_some _ e))
      simp only [List.mem_cons, List.not_mem_nil, or_false, not_or]
      exact ⟨Nat.ne_of_lt lt, Nat.ne_of_lt (Nat.lt_succ_of_lt lt)⟩
  have low : l < s.heap.objs.size := by
    rcases hl with ⟨o, e, _⟩ | ⟨o, e, _⟩ <;> exact Heap.lt_size e
  have szs : (s.heap.push { cls := .type "set", dict := none, data := .set #[] 0 (.fresh 0 0 led) }).objs.size = s.heap.objs.size + 1 := Heap.size_push _ _
  unfold Builtin.«set.__init__» noKeywords
  rcases hl with hl | hl
  · have hl1 := hl.push { cls := .type "set", dict := none, data := .set #[] 0 (.fresh 0 0 led) }
    have n1 := PySem.F.sub_list_set
    have n2 := PySem.F.sub_list_frozenset
    have n3 : (Value.type "list" == Value.type "dict") = false := by decide
    obtain ⟨⟨c1, c2, c3, c4⟩, hol, hcl, nl, hdl⟩ := hl
    simp only at hcl hdl
    subst hcl hdl
    have hol1 := Heap.get?_push_of_some { cls := .type "set", dict := none, data := .set #[] 0 (.fresh 0 0 led) } hol
    unfold Builtin.Frozenset.updateFrom
    generalize hPI : pyIter = PI
    wp_walk
    subst hPI
    refine wpAny_pyIter_list hl1 (wpAny_bind (wpAny_runValue ?_))
    have top : ((s.heap.push { cls := .type "set", dict := none, data := .set #[] 0 (.fresh 0 0 led) }).push { cls := .type "list_iterator", data := .fields #[.ref l, .int 0 0] }).get? (s.heap.objs.size + 1) = some { cls := .type "list_iterator", data := .fields #[.ref l, .int 0 0] } := by
      rw [← szs]; exact Heap.get?_push_size _ rfl
    rw [szs]
    refine codeAny_mono (rounds (Walks.list hh3 _ l (Nat.ne_of_lt (Nat.lt_succ_of_lt low)) its) ?_ ⟨⟨_, top, rfl, rfl⟩, hl1.push _⟩) fun r s2 h2 => ?_
    · simp only [List.mem_cons, List.not_mem_nil, or_false, not_or]
      exact ⟨Nat.ne_of_lt (Nat.lt_succ_self _), Nat.ne_of_gt low⟩
    · rcases r with e | fl
      · exact h2
      rcases fl with _ | _ | _ | v
      case ret =>
        obtain ⟨_, q⟩ := h2
        exact wpAny_pure (wpAny_pure ⟨rfl, q⟩)
      all_goals exact h2.elim
  · have hl1 := Heap.IsTuple.push hl { cls := .type "set", dict := none, data := .set #[] 0 (.fresh 0 0 led) }
    have n1 := PySem.F.sub_tuple_set
    have n2 := PySem.F.sub_tuple_frozenset
    have n3 : (Value.type "tuple" == Value.type "dict") = false := by decide
    obtain ⟨⟨c1, c2, c3, c4⟩, hol, hcl, nl, hdl⟩ := hl
    simp only at hcl hdl
    subst hcl hdl
    have hol1 := Heap.get?_push_of_some { cls := .type "set", dict := none, data := .set #[] 0 (.fresh 0 0 led) } hol
    unfold Builtin.Frozenset.updateFrom
    generalize hPI : pyIter = PI
    wp_walk
    subst hPI
    refine wpAny_pyIter_tuple hl1 (wpAny_bind (wpAny_runValue ?_))
    have top : ((s.heap.push { cls := .type "set", dict := none, data := .set #[] 0 (.fresh 0 0 led) }).push { cls := .type "tuple_iterator", data := .fields #[.ref l, .int 0 0] }).get? (s.heap.objs.size + 1) = some { cls := .type "tuple_iterator", data := .fields #[.ref l, .int 0 0] } := by
      rw [← szs]; exact Heap.get?_push_size _ rfl
    rw [szs]
    refine codeAny_mono (rounds (Walks.tuple hh3 _ l (Nat.ne_of_lt (Nat.lt_succ_of_lt low)) its) ?_ ⟨⟨_, top, rfl, rfl⟩, Heap.IsTuple.push hl1 _⟩) fun r s2 h2 => ?_
    · simp only [List.mem_cons, List.not_mem_nil, or_false, not_or]
      exact ⟨Nat.ne_of_lt (Nat.lt_succ_self _), Nat.ne_of_gt low⟩
    · rcases r with e | fl
      · exact h2
      rcases fl with _ | _ | _ | v
      case ret =>
        obtain ⟨_, q⟩ := h2
        exact wpAny_pure (wpAny_pure ⟨rfl, q⟩)
      all_goals exact h2.elim
end
end GN
namespace GN
open PySem PySem.Spec PyProof.Rows L2
section
variable {X : Cx}
theorem texts_of : ∀ {xs : List Str} {us : List Value}, Vals (xs.map V.str) us → StrsAre us xs
  | [], _, .nil => .nil
  | _ :: _, _, .cons ⟨k, e⟩ t => by
    subst e
    exact .cons _ k (texts_of t)
/-- len(set(xs)) of texts -/
def tUnlike (K : PySem.W.Frag) (ta : TE) : TE := fun σ H Q => ta σ H fun x H1 => ∃ (l : Addr) (xs : List Str), x = .ref l ∧ (SqL K H1 l (xs.map V.str) ∨ SqT K H1 l (xs.map V.str)) ∧ xs.length < 4000 ∧ Q (.int (unlike [] xs)) H1
theorem pe_unlike {a : Expr} {ta : TE} {p p2 q pos : Pos} (hc : X.calm = true) (g1 : Gl X "len") (m1 : X.mg "len" = none) (g2 : Gl X "set") (m2 : X.mg "set" = none) (ha : PE X a ta)
    (na : starEach [a] X.env = (false, eval a X.env) :: starEach [] X.env) : PE X (.Call (.Name "len" p) [.Call (.Name "set" p2) [a] [] q] [] pos) (tUnlike X.K ta) := by
  refine ⟨fun pins s σ H Q I h => Call_ (ld_blt I g1 m1 boot_len ?_)⟩
  refine PyProof.Rows.callWith_builtin1 (PyProof.Rows.args_cons (Call_ (ld_blt I g2 m2 boot_set ?_)) rfl) rfl rfl
  refine PyProof.Rows.callWith_type1 (PyProof.Rows.args_cons (thn (ha.run pins s σ H _ I h) fun v s1 ⟨x, H1, I1, r1, l, xs, e1, sq, few, k⟩ => PyProof.Rows.args_nil ?_) na) na rfl
  subst e1
  cases r1
  obtain ⟨its, rv, pl⟩ : ∃ its : List Value, Vals (xs.map V.str) its ∧ (s1.heap.IsList l its.toArray ∨ s1.heap.IsTuple l its.toArray) := by
    rcases sq with sq | sq
    · obtain ⟨its, r, pl, _⟩ := I1.list sq
      exact ⟨its, r, .inl pl.isList⟩
    · obtain ⟨its, r, pl, _⟩ := I1.tuple sq
      exact ⟨its, r, .inr pl⟩
  refine call_set_texts (I1.ok.hd hc) pl (texts_of (by simpa using rv)) few fun h2 tk ⟨o, es, ep, t, e2, ex, dt, _, _, _, ft, sz⟩ keep => PyProof.Rows.args_nil ?_
  have small : unlike [] xs < 4000 := Nat.lt_of_le_of_lt (unlike_le _ _) few
  refine call_len_set e2 ex dt ft (by omega) ⟨.int (unlike [] xs), H1, (I1.kept (t' := tk) keep).tok _, ⟨_, by rw [sz]⟩, k⟩
end
end GN
namespace GN
open PySem PySem.Spec PyProof.Rows L2 G
section
variable {X : Cx}
/-- tuple(xs) of a list: the new tuple has no dict of its own -/
theorem call_htuple : CallR X (.type "tuple") (fun xs H Q => ∃ p ys, xs = [.ref p] ∧ SqL X.K H p ys ∧ ∀ l o, H l = none → o.dict = none → Q (.ref l) (upd H l (.frz o (.tup ys)))) := by
  intro pins s σ H xs us Q I r h
  obtain ⟨p, ys, rfl, hq, k⟩ := h
  obtain ⟨u, rfl, rx⟩ := vals1 r
  cases rx
  obtain ⟨its, rv, pl, hz⟩ := I.list hq
  have hl := rv.length
  refine call_tuple_list pl.isList (fun h2 keep => ?_) (by simp only [List.size_toArray] <;> omega)
  have I1 : Inv X pins σ H { s with heap := h2 } := I.kept (t' := s.toks) keep
  have new : Heap.get? (h2.push { cls := .type "tuple", data := .seq its.toArray }) h2.objs.size = some { cls := .type "tuple", data := .seq its.toArray } := Heap.get?_push_size _ rfl
  refine ⟨.ref h2.objs.size, upd H h2.objs.size (.frz { cls := .type "tuple", data := .seq its.toArray } (.tup ys)), I1.laid (t' := s.toks) (fun b o e => Heap.get?_push_of_some _ e) (Nat.le_refl _) ?_, rfl, k _ _ (I1.hok.fresh (Nat.le_refl _)) rfl⟩
  exact ⟨new, hz, its, rv, ⟨_, new, rfl, _, rfl⟩⟩
def tHtup (ta : TA) : TE := fun σ H Q => ta σ H fun vs H1 => vs.length ≤ sizeLine ∧ ∀ p o, H1 p = none → o.dict = none → Q (.ref p) (upd H1 p (.frz o (.tup vs)))
/-- (a, b, ..): the new tuple has no dict of its own -/
theorem pe_htup {es : List Expr} {t : TA} {k : Nat} {pos : Pos} (h : PA X es t) : PE X (.Tuple es k pos) (tHtup t) := by
  refine ⟨fun pins s σ H Q I q => wpAny_Tuple_spliced (thn (h.run pos pins s σ H _ I q) fun us s1 ⟨vs, H1, I1, r, z, kq⟩ => ⟨by rw [← r.length]; exact z, ?_⟩)⟩
  have fr : H1 s1.heap.objs.size = none := I1.hok.fresh (Nat.le_refl _)
  have new : Heap.get? (s1.heap.push { cls := .type "tuple", data := .seq us.toArray }) s1.heap.objs.size = some { cls := .type "tuple", data := .seq us.toArray } := Heap.get?_push_size _ rfl
  refine ⟨.ref s1.heap.objs.size, upd H1 s1.heap.objs.size (.frz { cls := .type "tuple", data := .seq us.toArray } (.tup vs)), I1.laid (t' := s1.toks) (fun b u e => Heap.get?_push_of_some _ e) (Nat.le_refl _) ?_, rfl, kq _ _ fr rfl⟩
  exact ⟨new, z, us, r, ⟨_, new, rfl, _, rfl⟩⟩
theorem pairs_of2 {pins : List (Addr × Obj)} {σ : L2.St} {H : Hp} {s : Shared} (I : Inv X pins σ H s) : ∀ {ps : List Addr} {kvs : List (Key × V)}, Paired (fun p kv => SqT X.K H p [kV kv.1, kv.2]) ps kvs →
    ∃ (prs : List (Key × Value)) (pv : List (Value × Value)), KV kvs prs ∧ prs.length = ps.length ∧ pv.length = ps.length ∧ ∀ (j : Nat) (u y : Value), pv[j]? = some (u, y) → ∃ b k, ps[j]? = some b ∧ IsTup s.heap b #[u, y] ∧ prs[j]? = some (k, y) ∧ keyIs k u = true
  | _, _, .nil => ⟨[], [], .nil, rfl, rfl, fun j u y e => by simp at e⟩
  | _, _, .cons (a := p) (b := kv) h t => by
    obtain ⟨prs, pv, r, h1, h2, h3⟩ := pairs_of2 I t
    obtain ⟨its, rv, ht, _⟩ := I.tuple h
    obtain ⟨u, y, ei, ru, ry⟩ := vals2 rv
    subst ei
    refine ⟨(kv.1, y) :: prs, (u, y) :: pv, .cons ⟨rfl, ry⟩ r, by simp [h1], by simp [h2], fun j u2 y2 e => ?_⟩
    rcases j with _ | j
    · simp only [List.getElem?_cons_zero, Option.some.injEq, Prod.mk.injEq] at e
      obtain ⟨rfl, rfl⟩ := e
      exact ⟨p, kv.1, rfl, ht, rfl, kV_is (P := X.prog) (w := X.w) ru⟩
    · obtain ⟨b, k, e1, e2, e3, e4⟩ := h3 j u2 y2 (by simpa using e)
      exact ⟨b, k, by simpa using e1, e2, by simpa using e3, e4⟩
/-- dict(t) of a tuple of pairs that has no dict of its own -/
theorem call_dictH (hc : X.calm = true) : CallR X (.type "dict") (fun xs H Q => ∃ (a : Addr) (ps : List Addr) (kvs : List (Key × V)) (o : Obj), xs = [.ref a] ∧ H a = some (.frz o (.tup (ps.map V.ref))) ∧ o.dict = none ∧ Paired (fun p kv => SqT X.K H p [kV kv.1, kv.2]) ps kvs ∧
    ∀ p, H p = none → Q (.ref p) (upd H p (.dK (mergeK [] kvs)))) := by
  intro pins s σ H xs us Q I r q
  obtain ⟨a, ps, kvs, o, rfl, ha, hd, hp, k⟩ := q
  obtain ⟨u, rfl, rx⟩ := vals1 r
  cases rx
  obtain ⟨e1, z, its, rv, o2, e2, e3, n, e4⟩ := I.hok a _ ha
  rw [e1] at e2
  cases e2
  have ei := refs_at rv
  subst ei
  obtain ⟨prs, pv, rel, hl, hl2, at_⟩ := pairs_of2 I hp
  rw [List.length_map] at z
  have hl3 : kvs.length = ps.length := by rw [rel.length, hl]
  refine PySem.call_dict_pairs (knd := mixKind X.prog X.w) (PairArg.tuple a (ps.map Value.ref).toArray (fun j => ps.getD j 0) pv) (I.ok.hd hc) ⟨⟨o, n, e1, e3, hd, e4⟩, by simp [hl2], fun j u y e => ?_⟩ (kvs := prs) ⟨by rw [hl, hl2], fun i key v e => ?_⟩ (by rw [hl2]; exact z) fun h2 tk hd2 keep => ?_
  · obtain ⟨b, kk, f1, f2, f3, f4⟩ := at_ j u y e
    refine ⟨by simp [f1], .inl ?_⟩
    show s.heap.IsTuple (ps.getD j 0) #[u, y]
    rw [List.getD_eq_getElem?_getD, f1]
    exact f2
  · obtain ⟨b, kk, f1, f2, f3, f4⟩ := at_ i key v e
    exact ⟨kk, f3, f4⟩
  · have big : (s.heap.objs.size == sysModules) = false := beq_eq_false_iff_ne.mpr (Nat.ne_of_gt I.big)
    have few : (mergeK [] kvs).length ≤ sizeLine := Nat.le_trans (length_mergeK kvs []) (by rw [List.length_nil, Nat.zero_add, hl3]; exact z)
    exact ⟨.ref s.heap.objs.size, upd H s.heap.objs.size (.dK (mergeK [] kvs)), I.laid (t' := tk) (fun b ob e => keep b ob (fun q => nomatch q) e) (Nat.le_refl _) (show ObjOk X.prog X.w _ _ _ (.dK (mergeK [] kvs)) from ⟨few, big, merged [] prs, KV.merge rel .nil, hd2⟩), rfl, k _ (I.hok.fresh (Nat.le_refl _))⟩
end
/-! texts of numbers -/
theorem int_text (i : Int) : (toString i : Str) = G.strOf (intStr i) := by
  have nat : ∀ n : Nat, (Nat.repr n).toList = Nat.toDigits 10 n := fun n => by simp [Nat.repr]
  show Str.ofString (toString i) = _
  rw [Str.ofString_eq_toList]
  unfold G.strOf intStr digits
  congr 1
  cases i with
  | ofNat n =>
    rw [if_neg (by simp)]
    show (List.map Char.toNat (Nat.repr n).toList).toArray = _
    rw [nat]; rfl
  | negSucc n =>
    rw [if_pos (Int.negSucc_lt_zero n)]
    show (List.map Char.toNat ("-" ++ Nat.repr (n + 1)).toList).toArray = _
    rw [String.toList_append, List.map_append, nat]
    rfl
theorem int_small (i : Int) : okS (intStr i) := by
  have low : ∀ n : Nat, okS (digits n) := fun n c hc => by
    unfold digits at hc
    obtain ⟨d, _, rfl⟩ := List.mem_map.mp hc
    have := d.valid
    unfold Char.toNat
    rcases this with h | h
    · exact Nat.lt_trans h (by decide)
    · exact h.2
  unfold intStr
  split
  · intro c hc
    rcases List.mem_cons.mp hc with rfl | hc
    · decide
    · exact low _ c hc
  · exact low _
/-! sorted texts -/
theorem slt_dec : ∀ (x y : List Nat), slt x y = decide (x < y)
  | [], [] => by simp [slt]
  | _ :: _, [] => by simp [slt]
  | [], _ :: _ => by simp [slt]
  | a :: x, b :: y => by
    simp only [slt, slt_dec x y, List.cons_lt_cons_iff, Bool.if_true_left]
    by_cases h : a < b
    · simp [h]
    · by_cases h2 : b < a
      · have : ¬ a = b := by omega
        simp [h, h2, this]
      · have : a = b := by omega
        simp [this]
theorem sins_perm (x : List Nat) : ∀ l, (sins x l).Perm (x :: l)
  | [] => .refl _
  | y :: l => by
    simp only [sins]
    split
    · exact ((sins_perm x l).cons y).trans (.swap x y l)
    · exact .refl _
theorem ssort_perm : ∀ l, (ssort l).Perm l
  | [] => .refl _
  | x :: l => (sins_perm x _).trans ((ssort_perm l).cons x)
abbrev LeL (a b : List Nat) : Prop := ¬ b < a
theorem sins_pair (x : List Nat) : ∀ l : List (List Nat), l.Pairwise LeL → (sins x l).Pairwise LeL
  | [], _ => by simp [sins]
  | y :: l, h => by
    obtain ⟨h1, h2⟩ := List.pairwise_cons.mp h
    simp only [sins]
    split
    · rename_i c
      rw [slt_dec] at c
      have c : y < x := by simpa using c
      refine List.pairwise_cons.mpr ⟨fun z hz => ?_, sins_pair x l h2⟩
      rcases List.mem_cons.mp ((sins_perm x l).mem_iff.mp hz) with rfl | hz
      · exact List.lt_asymm c
      · exact h1 z hz
    · rename_i c
      rw [slt_dec] at c
      have c : ¬ y < x := by simpa using c
      refine List.pairwise_cons.mpr ⟨fun z hz => ?_, h⟩
      rcases List.mem_cons.mp hz with rfl | hz
      · exact c
      · exact fun q => h1 z hz (by
          rcases Decidable.em (z < y) with c2 | c2
          · exact c2
          · exact absurd (List.not_lt.mp c2 |> fun le => List.lt_of_le_of_lt le q) c)
theorem ssort_pair : ∀ l, (ssort l).Pairwise LeL
  | [] => .nil
  | x :: l => sins_pair x _ (ssort_pair l)
theorem rising_pair : ∀ (l : List Str) (p : Str), risingS p l = true → (∀ x y : Str, (ltCps x.cps.toList y.cps.toList = true ↔ x.cps.toList < y.cps.toList)) → (p :: l).Pairwise fun a b => ¬ b.cps.toList < a.cps.toList
  | [], p, _, _ => by simp
  | x :: l, p, h, lt => by
    simp only [risingS, Bool.and_eq_true, Bool.not_eq_true'] at h
    have ih := rising_pair l x h.2 lt
    have hx : ¬ x.cps.toList < p.cps.toList := fun q => by
      have := (lt x p).mpr q
      rw [h.1] at this; cases this
    refine List.pairwise_cons.mpr ⟨fun z hz => ?_, ih⟩
    rcases List.mem_cons.mp hz with rfl | hz
    · exact hx
    · have := (List.pairwise_cons.mp ih).1 z hz
      exact fun q => hx (List.lt_of_le_of_lt (List.not_lt.mp this) q)
theorem lt_cps : ∀ (x y : List Nat), ltCps x y = true ↔ x < y
  | [], [] => by simp [ltCps]
  | [], _ :: _ => by simp [ltCps]
  | _ :: _, [] => by simp [ltCps]
  | a :: x, b :: y => by
    simp only [ltCps, List.cons_lt_cons_iff, Bool.or_eq_true, Bool.and_eq_true, decide_eq_true_eq, beq_iff_eq, lt_cps x y]
theorem sorted_is {ns : List (List Nat)} {ys : List Str} (pm : ys.Perm (ns.map G.strOf)) (so : sortedS ys = true) : ys = (ssort ns).map G.strOf := by
  have p1 : (ys.map fun y => y.cps.toList).Pairwise LeL := by
    rw [List.pairwise_map]
    cases ys with
    | nil => exact .nil
    | cons y ys => exact rising_pair ys y so fun a b => lt_cps _ _
  have p2 : (ys.map fun y => y.cps.toList).Perm ns := by
    have := pm.map fun y : Str => y.cps.toList
    rw [List.map_map] at this
    have e : (fun y : Str => y.cps.toList) ∘ G.strOf = id := by funext l; simp [G.strOf]
    rwa [e, List.map_id] at this
  have p3 : (ys.map fun y => y.cps.toList) = ssort ns := (p2.trans (ssort_perm ns).symm).eq_of_pairwise (le := LeL) (fun a b _ _ h1 h2 => List.le_antisymm (List.not_lt.mp h1) (List.not_lt.mp h2)) p1 (ssort_pair ns)
  rw [← p3, List.map_map]
  have e : G.strOf ∘ (fun y : Str => y.cps.toList) = id := by funext l; simp [G.strOf]
  rw [e, List.map_id]
theorem reps_texts {C : Cn} {ρ : List Addr} {H : Hp} : ∀ (ns : List (List Nat)), (∀ l ∈ ns, okS l) → Reps C ρ H (ns.map .str) ((ns.map G.strOf).map V.str)
  | [], _ => by simp only [List.map_nil, Reps]
  | n :: ns, h => by
    simp only [List.map_cons]
    exact Reps.mk (Rep.mkS (h n List.mem_cons_self)) (reps_texts ns fun l hl => h l (List.mem_cons_of_mem _ hl))
/-! dicts -/
section
variable {X : Cx} {C : Cn} {ρ : List Addr} {H : Hp}
/-- told pair by pair -/
def RepP (C : Cn) (ρ : List Addr) (H : Hp) : List (List Nat × W) → List (Key × V) → Prop := fun ps kvs => kvs.map (·.1) = (ps.map (·.1)).map (fun l => Sum.inr (G.strOf l)) ∧ Reps C ρ H (ps.map (·.2)) (kvs.map (·.2))
theorem pairs_rep (hX : X.K = C.K) : ∀ {ys : List W} {vs : List V} {ps : List (List Nat × W)}, Reps C ρ H ys vs → pairsOf ys = some ps → ∃ (as : List Addr) (kvs : List (Key × V)), vs = as.map V.ref ∧ Paired (fun p kv => SqT X.K H p [kV kv.1, kv.2]) as kvs ∧ RepP C ρ H ps kvs := by
  intro ys
  induction ys with
  | nil =>
    intro vs ps r e
    simp only [G.pairsOf, Option.some.injEq] at e; subst e
    exact ⟨[], [], r.nil', .nil, rfl, by simp only [List.map_nil, Reps]⟩
  | cons y ys ih =>
    intro vs ps r e
    obtain ⟨v, us, rfl, r1, r2⟩ := r.cons'
    have two : ∀ (k : List Nat) (x : W), (y = .tup [.str k, x] ∨ y = .htup [.str k, x]) → (pairsOf ys).map ((k, x) :: ·) = some ps → ∃ (as : List Addr) (kvs : List (Key × V)), v :: us = as.map V.ref ∧ Paired (fun p kv => SqT X.K H p [kV kv.1, kv.2]) as kvs ∧ RepP C ρ H ps kvs := fun k x hy e => by
      obtain ⟨qs, e1, rfl⟩ := Option.map_eq_some_iff.mp e
      obtain ⟨as, kvs, rfl, h1, h2, h3⟩ := ih r2 e1
      have r1' : Rep C ρ H (.tup [.str k, x]) v := by
        rcases hy with rfl | rfl
        · exact r1
        · exact Rep.soft (.htup [.str k, x]) _ r1
      obtain ⟨p, ws, rfl, q, r3⟩ := r1'.tup
      obtain ⟨a, ws2, rfl, a1, a2⟩ := r3.cons'
      obtain ⟨b, ws3, rfl, b1, b2⟩ := a2.cons'
      have := b2.nil'; subst this
      obtain ⟨rfl, ok⟩ := a1.str
      refine ⟨p :: as, (Sum.inr (G.strOf k), b) :: kvs, rfl, .cons (hX ▸ q.sq) h1, ?_, ?_⟩
      · simp only [List.map_cons, h2]
      · exact Reps.mk b1 h3
    unfold G.pairsOf at e
    split at e
    · rename_i q; cases q
    · rename_i q; cases q; exact two _ _ (.inl rfl) e
    · rename_i q; cases q; exact two _ _ (.inr rfl) e
    · cases e
theorem reps_upd : ∀ {ps : List (List Nat × W)} {kvs : List (Key × V)} (k : List Nat) {w : W} {v : V}, RepP C ρ H ps kvs → Rep C ρ H w v → RepP C ρ H (ps.map fun p => if p.1 = k then (p.1, w) else p) (kvs.map fun kv => if kv.1 = Sum.inr (G.strOf k) then (kv.1, v) else kv)
  | [], [], _, _, _, h, _ => h
  | [], _ :: _, _, _, _, h, _ => by simp [RepP] at h
  | _ :: _, [], _, _, _, h, _ => by simp [RepP] at h
  | p :: ps, kv :: kvs, k, w, v, h, r => by
    simp only [RepP, List.map_cons, List.cons.injEq] at h
    obtain ⟨⟨h1, h2⟩, h3⟩ := h
    obtain ⟨_, _, e, r1, r2⟩ := h3.cons'
    cases e
    have ih := reps_upd (ps := ps) (kvs := kvs) k ⟨h2, r2⟩ r
    have ek : (kv.1 = Sum.inr (G.strOf k)) ↔ p.1 = k := by
      rw [h1]
      constructor
      · intro e
        injection e with e
        have : (G.strOf p.1).cps.toList = (G.strOf k).cps.toList := by rw [e]
        simpa [G.strOf] using this
      · intro e; rw [e]
    refine ⟨?_, ?_⟩
    · have := ih.1
      simp only [List.map_cons]
      rw [this]
      by_cases c : p.1 = k
      · rw [if_pos c, if_pos (ek.mpr c)]; simp only [h1]
      · rw [if_neg c, if_neg (fun q => c (ek.mp q))]; simp only [h1]
    · simp only [List.map_cons]
      by_cases c : p.1 = k
      · rw [if_pos c, if_pos (ek.mpr c)]; exact Reps.mk r ih.2
      · rw [if_neg c, if_neg (fun q => c (ek.mp q))]; exact Reps.mk r1 ih.2
theorem any_key : ∀ {ps : List (List Nat × W)} {kvs : List (Key × V)} (k : List Nat), kvs.map (·.1) = (ps.map (·.1)).map (fun l => Sum.inr (G.strOf l)) → (kvs.any fun kv => decide (kv.1 = Sum.inr (G.strOf k))) = ps.any fun p => decide (p.1 = k)
  | [], [], _, _ => rfl
  | [], _ :: _, _, h => by simp at h
  | _ :: _, [], _, h => by simp at h
  | p :: ps, kv :: kvs, k, h => by
    simp only [List.map_cons, List.cons.injEq] at h
    have ek : (kv.1 = Sum.inr (G.strOf k)) ↔ p.1 = k := by
      rw [h.1]
      constructor
      · intro e
        injection e with e
        have : (G.strOf p.1).cps.toList = (G.strOf k).cps.toList := by rw [e]
        simpa [G.strOf] using this
      · intro e; rw [e]
    simp only [List.any_cons, any_key k h.2, ek]
theorem put_rep {ps : List (List Nat × W)} {kvs : List (Key × V)} (k : List Nat) {w : W} {v : V} (h : RepP C ρ H ps kvs) (r : Rep C ρ H w v) : RepP C ρ H (putS k w ps) (putK kvs (Sum.inr (G.strOf k)) v) := by
  unfold putS putK
  rw [any_key k h.1]
  split
  · exact reps_upd k h r
  · refine ⟨by rw [List.map_append, h.1]; simp, ?_⟩
    rw [List.map_append, List.map_append]
    exact h.2.app (Reps.one r)
theorem merge_rep : ∀ {ps : List (List Nat × W)} {kvs : List (Key × V)} {ds : List (List Nat × W)} {dv : List (Key × V)}, RepP C ρ H ps kvs → RepP C ρ H ds dv → RepP C ρ H (ps.foldl (fun d p => putS p.1 p.2 d) ds) (mergeK dv kvs)
  | [], [], _, _, _, h => h
  | [], _ :: _, _, _, h, _ => by simp [RepP] at h
  | _ :: _, [], _, _, h, _ => by simp [RepP] at h
  | p :: ps, kv :: kvs, ds, dv, h, hd => by
    simp only [RepP, List.map_cons, List.cons.injEq] at h
    obtain ⟨⟨h1, h2⟩, h3⟩ := h
    obtain ⟨_, _, e, r1, r2⟩ := h3.cons'
    cases e
    have := put_rep p.1 hd r1
    rw [← h1] at this
    exact merge_rep (ps := ps) (kvs := kvs) ⟨h2, r2⟩ this
theorem dict_rep {s : ST} {ps : List (List Nat × W)} {kvs : List (Key × V)} {p : Addr} (S : SR C ρ H s) (hn : H p = none) (h : RepP C ρ H ps kvs) : Rep C ρ (upd H p (.dK (mergeK [] kvs))) (dctOf ps) (.ref p) := by
  have m := merge_rep (ds := []) (dv := []) h ⟨rfl, by simp only [List.map_nil, Reps]⟩
  unfold dctOf
  simp only [Rep]
  exact ⟨p, mergeK [] kvs, rfl, S.fresh' hn, upd_same, m.1, Reps.mono (Gr.new hn) _ _ m.2⟩
end
end GN

set_option Elab.async false
set_option linter.all false
set_option autoImplicit false
set_option maxRecDepth 100000
set_option maxHeartbeats 4000000
/-! GO: slices with a step. -/
namespace GN
open PySem PySem.Spec PyProof.Rows L2 G
section
variable {X : Cx}
theorem pick_vals {xs : List V} {its : List Value} (r : Vals xs its) (lo hi : Option Int) (k : Int) : Vals (cutX xs lo hi k) (slicePick its.toArray lo hi (some k)).toList := by
  have row : ∀ l : List Nat, Vals (l.filterMap (xs[·]?)) (l.filterMap (its.toArray[·]?)) := fun l => by
    induction l with
    | nil => exact .nil
    | cons i l ih =>
      simp only [List.filterMap_cons]
      cases e : xs[i]? with
      | none =>
        have : its.toArray[i]? = none := by
          have h := List.getElem?_eq_none_iff.mp e
          rw [r.length] at h
          simpa using h
        rw [this]; exact ih
      | some x =>
        obtain ⟨u, e2, e3⟩ := r.get e
        have : its.toArray[i]? = some u := by simpa using e2
        rw [this]; exact .cons e3 ih
  unfold cutX slicePick
  rw [List.size_toArray, ← r.length]
  exact row _
theorem cut_len {α : Type} (xs : List α) (lo hi : Option Int) (k : Int) : (cutX xs lo hi k).length ≤ xs.length := by
  unfold cutX
  refine Nat.le_trans (List.length_filterMap_le _ _) (sliceRange_length_le _ _ _ _ (fun h => ?_) fun h => ?_)
  · have hk : 0 < k := h
    unfold sliceBounds
    simp only [Option.getD_some, gt_iff_lt, hk, if_true]
    constructor
    · cases lo <;> simp only [] <;> omega
    · cases hi <;> simp only [] <;> omega
  · have hk : ¬ 0 < k := h
    unfold sliceBounds
    simp only [Option.getD_some, gt_iff_lt, hk, if_false]
    constructor
    · cases lo <;> simp only [] <;> omega
    · cases hi <;> simp only [] <;> omega
theorem pick_rep {C : Cn} {ρ : List Addr} {H : Hp} {ws : List W} {vs : List V} (r : Reps C ρ H ws vs) : ∀ l : List Nat, Reps C ρ H (l.filterMap (ws[·]?)) (l.filterMap (vs[·]?))
  | [] => by simp only [List.filterMap_nil, Reps]
  | i :: l => by
    have ih := pick_rep r l
    simp only [List.filterMap_cons]
    cases e : ws[i]? with
    | none =>
      have : vs[i]? = none := by
        have h := List.getElem?_eq_none_iff.mp e
        rw [r.length] at h
        exact List.getElem?_eq_none h
      rw [this]; exact ih
    | some w =>
      obtain ⟨v, e2, e3⟩ := r.get e
      rw [e2]; exact Reps.mk e3 ih
theorem strOf_inj {a b : List Nat} (h : G.strOf a = G.strOf b) : a = b := by
  have : (G.strOf a).cps.toList = (G.strOf b).cps.toList := by rw [h]
  simpa [G.strOf] using this
theorem unlike_is : ∀ (ns seen : List (List Nat)), unlike (seen.map G.strOf) (ns.map G.strOf) = unl seen ns
  | [], _ => rfl
  | n :: ns, seen => by
    have ih := unlike_is ns (seen ++ [n])
    rw [List.map_append] at ih
    simp only [List.map_cons, unlike, unl]
    rw [show seen.map G.strOf ++ [G.strOf n] = seen.map G.strOf ++ [n].map G.strOf from rfl] at *
    rw [ih]
    congr 1
    have : ((seen.map G.strOf).contains (G.strOf n) = true) ↔ n ∈ seen := by
      simp only [List.contains_eq_mem, List.mem_map, decide_eq_true_eq]
      exact ⟨fun ⟨a, h1, h2⟩ => strOf_inj h2 ▸ h1, fun h => ⟨n, h, rfl⟩⟩
    by_cases c : n ∈ seen
    · rw [if_pos (this.mpr c), if_pos c]
    · rw [if_neg (fun q => c (this.mp q)), if_neg c]
/-- xs[lo:hi:k], k written -/
def tStep (K : PySem.W.Frag) (k : Int) (te : TE) (tl th : TO) : TE := fun σ H Q => te σ H fun x H1 => tl σ H1 fun lo H2 => th σ H2 fun hi H3 => ∃ a xs, x = .ref a ∧ SqL K H3 a xs ∧ ∀ p, H3 p = none → Q (.ref p) (upd H3 p (.lst (cutX xs lo hi k)))
theorem pe_step {e st : Expr} {l h : Option Expr} {te : TE} {tl th ts : TO} {k : Int} {p3 pos : Pos} (he : PE X e te) (hl : PO X l tl) (hh : PO X h th) (hs : PO X (some st) ts) (hk : ∀ σ H, ts σ H fun o H2 => o = some k ∧ H2 = H) (k0 : k ≠ 0) :
    PE X (.Subscript e (.Slice l h (some st) p3) pos) (tStep X.K k te tl th) := by
  refine ⟨fun pins s σ H Q I q => Subscript_ (thn (he.run pins s σ H _ I q) fun v s1 ⟨x, H1, I1, r1, q1⟩ => ?_)⟩
  refine wpAny_Slice (thn (hl.run pins s1 σ H1 _ I1 q1) fun vl s2 ⟨lo, H2, I2, pl, q2⟩ => thn (hh.run pins s2 σ H2 _ I2 q2) fun vh s3 ⟨hi, H3, I3, ph, a, xs, ex, hx, q3⟩ => ?_)
  subst ex
  cases r1
  refine thn (hs.run pins s3 σ H3 _ I3 (hk σ H3)) fun vs s4 ⟨o, H4, I4, ps, eo, e4⟩ => ?_
  subst eo e4
  have I5 : Inv X pins σ H4 { s4 with heap := s4.heap.push { cls := .type "slice", data := .fields #[vl, vh, vs] } } := I4.kept (t' := s4.toks) fun b ob z => Heap.get?_push_of_some _ z
  obtain ⟨its, r, pl5, hz⟩ := I5.list hx
  have hlen := r.length
  show wpAny (model X.prog X.w) X.A (subscriptTail e (.Slice l h (some st) p3) (.ref a) (.ref s4.heap.objs.size)) (EP X pins σ Q) X.xe { s4 with heap := s4.heap.push { cls := .type "slice", data := .fields #[vl, vh, vs] } }
  refine tail_any (ops := [.ref a, .ref s4.heap.objs.size]) pl5.isList.typeIs (PySem.slot_list_getitem.lookup) ?_ (by with_unfolding_all rfl)
  refine wpAny_getItem_list_slice pl5.isList (Heap.IsSliceOf.new _ vl vh vs) pl ph ps (fun z => k0 (Option.some.inj z)) ?_ (by rw [List.size_toArray]; omega)
  refine ⟨.ref _, _, I5.laid (t' := s4.toks) (o := .lst (cutX xs lo hi k)) (fun b ob z => Heap.get?_push_of_some _ z) (Nat.le_refl _) ?_, rfl, q3 _ (I5.hok.fresh (Nat.le_refl _))⟩
  exact ⟨Nat.le_trans (cut_len _ _ _ _) hz, _, 0, pick_vals r lo hi k, Heap.get?_push_size _ rfl⟩
end
end GN

set_option Elab.async false
set_option linter.all false
set_option autoImplicit false
set_option maxRecDepth 100000
set_option maxHeartbeats 4000000
/-! GZ: list(zip(a, b)). -/
namespace GN
open PySem PySem.Spec PyProof.Rows L2 G
section
variable {prog : Program} {w : World} {A : Around} {E : Value → Shared → Prop} {s : Shared} {z TI TO i1 i2 T : Addr} {fp1 fp2 : List Addr} {n1 n2 i : Nat} {P1 P2 : Nat → Value → Prop} {St1 St2 : Nat → Heap → Prop} {f : Bool} {oT : Obj}
/-- the next pair of a zip whose last tuple is still out -/
theorem zip_more {Q : Value → Shared → Prop} (S : ZipSep2 z TI TO i1 i2 fp1 fp2) (D1 : Draws prog w A i1 fp1 n1 P1 St1) (D2 : Draws prog w A i2 fp2 n2 P2 St2) (hz : IsZipHeld s.heap z TI TO T f) (hT : s.heap.get? T = some oT) (hTI : IsTupOf2 s.heap TI (.ref i1) (.ref i2))
    (st1 : St1 i s.heap) (st2 : St2 i s.heap) (l1 : i < n1) (l2 : i < n2)
    (hQ : ∀ x y h2 tk, P1 i x → P2 i y → IsZipHeld h2 z TI TO T true → St1 (i + 1) h2 → St2 (i + 1) h2 → IsTupOf2 h2 s.heap.objs.size x y → (∀ c o, c ≠ z → c ≠ i1 → c ≠ i2 → s.heap.get? c = some o → h2.get? c = some o) → Q (.ref s.heap.objs.size) { s with heap := h2, toks := tk }) :
    wpAny (model prog w) A (Builtin.«zip.__next__» ⟨[.ref z], []⟩) (fun fin s2 => ∃ v, fin = .done (.ret v) ∧ Q v s2) E s := by
  obtain ⟨hp, g, d, t0, os⟩ := s
  show wpAny _ _ (field (.ref z) 2 >>= _) _ _ _
  refine wpAny_bind (wpAny_field hz rfl (x := .bool false) rfl ?_)
  show wpAny _ _ (field (.ref z) 3 >>= _) _ _ _
  refine wpAny_bind (wpAny_field hz rfl (x := .ref TI) rfl (wpAny_bind (wpAny_seqItems hTI rfl ?_)))
  show wpAny _ _ (Builtin.SmallTypes.ownedTupleIsFree (.ref z) >>= _) _ _ _
  refine wpAny_bind (wpAny_tupleHeld_zip hz hT fun a0 za sa => ?_)
  simp only [Bool.false_eq_true, if_false]
  refine wpAny_bind ?_
  rw [← Array.forIn_toList]
  simp only [List.forIn_cons, List.forIn_nil]
  refine wpAny_bind (wpAny_bind (wpAny_holding ?_))
  show wpAny _ _ (Builtin.SmallTypes.nextOf (.ref i1) >>= _) _ _ ⟨a0, g, d, t0, os⟩
  refine wpAny_bind (D1.item i _ _ _ l1 (D1.over st1 sa S.zf1) fun x a1 t1 hx s1 k1 => wpAny_pure (wpAny_pure ?_))
  replace k1 : Heap.SameBut i1 a0 a1 := k1
  refine wpAny_bind (wpAny_bind (wpAny_holding ?_))
  show wpAny _ _ (Builtin.SmallTypes.nextOf (.ref i2) >>= _) _ _ ⟨a1, g, d, t1, os⟩
  refine wpAny_bind (D2.item i _ _ _ l2 (D2.over (D2.over st2 sa S.zf2) k1 S.sep1_2) fun y a2 t2 hy s2 k2 => wpAny_pure (wpAny_pure (wpAny_pure ?_)))
  replace k2 : Heap.SameBut i2 a1 a2 := k2
  show wpAny _ _ (newTuple [x, y] >>= _) _ _ _
  refine wpAny_bind (wpAny_newTuple ?_)
  have sz : a2.objs.size = hp.objs.size := by rw [k2.1, k1.1, sa.1]
  have zz : IsZipHeld a2 z TI TO T true := k2.extBut _ _ S.zi2 (k1.extBut _ _ S.zi1 za)
  have kk : ∀ c o, c ≠ z → c ≠ i1 → c ≠ i2 → hp.get? c = some o → a2.get? c = some o := fun c o c1 c2 c3 e => k2.extBut _ _ c3 (k1.extBut _ _ c2 (sa.extBut _ _ c1 e))
  refine wpAny_pure ⟨_, rfl, ?_⟩
  show Q (.ref a2.objs.size) _
  have tp : IsTupOf2 (a2.push { cls := .type "tuple", data := .seq #[x, y] }) a2.objs.size x y := Heap.get?_push_size _ rfl
  rw [sz] at tp ⊢
  exact hQ x y _ _ hx hy (Heap.get?_push_of_some _ zz) (D1.frame _ _ _ (D1.over s1 k2 S.sep2_1) fun b _ o e => Heap.get?_push_of_some _ e) (D2.frame _ _ _ s2 fun b _ o e => Heap.get?_push_of_some _ e) tp fun c o c1 c2 c3 e => Heap.get?_push_of_some _ (kk c o c1 c2 c3 e)
/-- .. its end -/
theorem zip_stop {Q : Fin → Shared → Prop} (S : ZipSep2 z TI TO i1 i2 fp1 fp2) (D1 : Draws prog w A i1 fp1 n1 P1 St1) (D2 : Draws prog w A i2 fp2 n2 P2 St2) (hz : IsZipHeld s.heap z TI TO T f) (hT : s.heap.get? T = some oT) (hTI : IsTupOf2 s.heap TI (.ref i1) (.ref i2))
    (st1 : St1 i s.heap) (st2 : St2 i s.heap) (l1 : i ≤ n1) (l2 : i ≤ n2) (le : i = n1 ∨ i = n2)
    (hE : ∀ h2 tk e, (∀ c o, c ≠ z → c ≠ i1 → c ≠ i2 → s.heap.get? c = some o → h2.get? c = some o) → (∃ o, h2.get? e = some o ∧ o.cls = .type "StopIteration") → E (.ref e) { s with heap := h2, toks := tk }) :
    wpAny (model prog w) A (Builtin.«zip.__next__» ⟨[.ref z], []⟩) Q E s := by
  obtain ⟨hp, g, d, t0, os⟩ := s
  show wpAny _ _ (field (.ref z) 2 >>= _) _ _ _
  refine wpAny_bind (wpAny_field hz rfl (x := .bool false) rfl ?_)
  show wpAny _ _ (field (.ref z) 3 >>= _) _ _ _
  refine wpAny_bind (wpAny_field hz rfl (x := .ref TI) rfl (wpAny_bind (wpAny_seqItems hTI rfl ?_)))
  show wpAny _ _ (Builtin.SmallTypes.ownedTupleIsFree (.ref z) >>= _) _ _ _
  refine wpAny_bind (wpAny_tupleHeld_zip hz hT fun a0 za sa => ?_)
  simp only [Bool.false_eq_true, if_false]
  refine wpAny_bind ?_
  rw [← Array.forIn_toList]
  simp only [List.forIn_cons, List.forIn_nil]
  refine wpAny_bind (wpAny_bind (wpAny_holding ?_))
  show wpAny _ _ (Builtin.SmallTypes.nextOf (.ref i1) >>= _) _ _ ⟨a0, g, d, t0, os⟩
  by_cases c1 : i = n1
  · subst c1
    exact wpAny_bind (D1.done _ _ _ (D1.over st1 sa S.zf1) fun h2 e k he => hE h2 t0 e (fun c o z1 z2 _ q => k _ _ z2 (sa.extBut _ _ z1 q)) he)
  · have c2 : i = n2 := le.resolve_left c1
    subst c2
    refine wpAny_bind (D1.item i _ _ _ (by omega) (D1.over st1 sa S.zf1) fun x a1 t1 hx s1 k1 => wpAny_pure (wpAny_pure ?_))
    replace k1 : Heap.SameBut i1 a0 a1 := k1
    refine wpAny_bind (wpAny_bind (wpAny_holding ?_))
    show wpAny _ _ (Builtin.SmallTypes.nextOf (.ref i2) >>= _) _ _ ⟨a1, g, d, t1, os⟩
    exact wpAny_bind (D2.done _ _ _ (D2.over (D2.over st2 sa S.zf2) k1 S.sep1_2) fun h2 e k he => hE h2 t1 e (fun c o z1 z2 z3 q => k _ _ z3 (k1.extBut _ _ z2 (sa.extBut _ _ z1 q))) he)
end
end GN

set_option Elab.async false
set_option linter.all false
set_option autoImplicit false
set_option maxRecDepth 100000
set_option maxHeartbeats 4000000
namespace GN
open PySem PySem.Spec PyProof.Rows L2 G
/-- the tuples that were made: where they stand, of what -/
structure Made (P1 P2 : Nat → Value → Prop) (lo : Addr) (h : Heap) (as : List Addr) : Prop where
  rise : as.Pairwise (· < ·)
  above : ∀ a ∈ as, lo < a ∧ a < h.objs.size
  at_ : ∀ (j : Nat) (a : Addr), as[j]? = some a → ∃ x y, IsTupOf2 h a x y ∧ P1 j x ∧ P2 j y
section
variable {prog : Program} {w : World} {A : Around} {E : Value → Shared → Prop} {s : Shared} {z TI TO i1 i2 : Addr} {fp1 fp2 : List Addr} {n1 n2 : Nat} {P1 P2 : Nat → Value → Prop} {St1 St2 : Nat → Heap → Prop}
theorem Made.up {lo : Addr} {h h2 : Heap} {as : List Addr} (m : Made P1 P2 lo h as) (k : ∀ a ∈ as, ∀ o, h.get? a = some o → h2.get? a = some o) (sz : h.objs.size ≤ h2.objs.size) : Made P1 P2 lo h2 as :=
  ⟨m.rise, fun a ha => ⟨(m.above a ha).1, Nat.lt_of_lt_of_le (m.above a ha).2 sz⟩, fun j a e => by
    obtain ⟨x, y, t, q1, q2⟩ := m.at_ j a e
    exact ⟨x, y, k a (List.mem_of_getElem? e) _ t, q1, q2⟩⟩
theorem Made.add {lo : Addr} {h : Heap} {as : List Addr} {a : Addr} {x y : Value} (m : Made P1 P2 lo h as) (big : ∀ b ∈ as, b < a) (la : lo < a) (t : IsTupOf2 h a x y) (p1 : P1 as.length x) (p2 : P2 as.length y) : Made P1 P2 lo h (as ++ [a]) := by
  refine ⟨List.pairwise_append.mpr ⟨m.rise, List.pairwise_singleton _ _, fun b hb c hc => by rw [List.mem_singleton.mp hc]; exact big b hb⟩, fun b hb => ?_, fun j b e => ?_⟩
  · rcases List.mem_append.mp hb with hb | hb
    · exact m.above b hb
    · rw [List.mem_singleton.mp hb]
      exact ⟨la, Heap.lt_size t⟩
  · rcases Nat.lt_trichotomy j as.length with c | c | c
    · rw [List.getElem?_append_left c] at e
      exact m.at_ j b e
    · subst c
      rw [List.getElem?_append_right (Nat.le_refl _)] at e
      simp at e
      subst e
      exact ⟨x, y, t, p1, p2⟩
    · rw [List.getElem?_eq_none (by simp; omega)] at e
      cases e
/-- a zip on its way -/
def ZAt (z TI TO i1 i2 D : Addr) (St1 St2 : Nat → Heap → Prop) (i : Nat) (h : Heap) : Prop :=
  IsTupOf2 h TI (.ref i1) (.ref i2) ∧ St1 i h ∧ St2 i h ∧ ((IsZip h z TI TO .none ∧ ∃ a b, IsTupOf2 h TO a b) ∨ ∃ T f oT, IsZipHeld h z TI TO T f ∧ h.get? T = some oT ∧ T ≠ z ∧ T ≠ i1 ∧ T ≠ i2 ∧ T ≠ D)
theorem zip_next {i : Nat} {D : Addr} {Q : Option Value → Shared → Prop} (S : ZipSep2 z TI TO i1 i2 fp1 fp2) (D1 : Draws prog w A.in1 i1 fp1 n1 P1 St1) (D2 : Draws prog w A.in1 i2 fp2 n2 P2 St2) (za : ZAt z TI TO i1 i2 D St1 St2 i s.heap) (l1 : i < n1) (l2 : i < n2) (hD : D < s.heap.objs.size)
    (hQ : ∀ x y h2 tk, P1 i x → P2 i y → ZAt z TI TO i1 i2 D St1 St2 (i + 1) h2 → IsTupOf2 h2 s.heap.objs.size x y → (∀ c o, c ≠ z → c ≠ TO → c ≠ i1 → c ≠ i2 → s.heap.get? c = some o → h2.get? c = some o) → Q (some (.ref s.heap.objs.size)) { s with heap := h2, toks := tk }) :
    wpAny (model prog w) A (pyNext (.ref z)) Q E s := by
  obtain ⟨hTI, st1, st2, zz⟩ := za
  have lt : ∀ {c o}, s.heap.get? c = some o → s.heap.objs.size ≠ c := fun e => Nat.ne_of_gt (Heap.lt_size e)
  have n1' : s.heap.objs.size ≠ i1 := let ⟨_, e⟩ := D1.live _ _ st1; lt e
  have n2' : s.heap.objs.size ≠ i2 := let ⟨_, e⟩ := D2.live _ _ st2; lt e
  rcases zz with ⟨hz, a, b, hTO⟩ | ⟨T, f, oT, hz, hT, r1, r2, r3, r4⟩
  · refine wpAny_pyNext_zipD2_item S D1 D2 hz hTI hTO st1 st2 l1 l2 fun x y h2 tk q1 q2 b1 b2 d1 d2 b5 b6 hk => ?_
    exact hQ x y h2 tk q1 q2 ⟨hk _ _ S.TIz S.TITO S.TIi1 S.TIi2 hTI, d1, d2, .inr ⟨s.heap.objs.size, false, _, b1, b5, lt hz, n1', n2', Nat.ne_of_gt hD⟩⟩ b5 hk
  · have hTy : s.TypeIs (.ref z) "zip" := ⟨_, hz, rfl⟩
    unfold pyNext
    refine wpAny_bind (wpAny_attempt (wpAny_callSpecial?_slot (name := Str.ofString "__next__") hTy F.slot_zip_next (wpAny_call_entry F.slot_zip_next hTy F.entry_zip_next
      (zip_more S D1 D2 hz hT hTI st1 st2 l1 l2 fun x y h2 tk q1 q2 b1 d1 d2 b5 hk => wpAny_pure ?_) (F.args_zip_next_1 _))))
    exact hQ x y h2 tk q1 q2 ⟨hk _ _ S.TIz S.TIi1 S.TIi2 hTI, d1, d2, .inr ⟨T, true, oT, b1, hk _ _ r1 r2 r3 hT, r1, r2, r3, r4⟩⟩ b5 fun c o c1 _ c2 c3 e => hk c o c1 c2 c3 e
theorem zip_done {i : Nat} {D : Addr} {Q : Option Value → Shared → Prop} (hh : A.handled = none) (S : ZipSep2 z TI TO i1 i2 fp1 fp2) (D1 : Draws prog w A.in1 i1 fp1 n1 P1 St1) (D2 : Draws prog w A.in1 i2 fp2 n2 P2 St2) (za : ZAt z TI TO i1 i2 D St1 St2 i s.heap) (l1 : i ≤ n1) (l2 : i ≤ n2) (le : i = n1 ∨ i = n2)
    (hQ : ∀ h2 tk, (∀ c o, c ≠ z → c ≠ TO → c ≠ i1 → c ≠ i2 → s.heap.get? c = some o → h2.get? c = some o) → Q none { s with heap := h2, toks := tk }) :
    wpAny (model prog w) A (pyNext (.ref z)) Q E s := by
  obtain ⟨hTI, st1, st2, zz⟩ := za
  rcases zz with ⟨hz, a, b, hTO⟩ | ⟨T, f, oT, hz, hT, r1, r2, r3, r4⟩
  · exact wpAny_pyNext_zipD2_end S D1 D2 hz hTI hTO st1 st2 l1 l2 le fun h2 tk hk => hQ h2 tk hk
  · have hTy : s.TypeIs (.ref z) "zip" := ⟨_, hz, rfl⟩
    unfold pyNext
    refine wpAny_bind (wpAny_attempt (wpAny_callSpecial?_slot (name := Str.ofString "__next__") hTy F.slot_zip_next (wpAny_call_entry F.slot_zip_next hTy F.entry_zip_next
      (zip_stop S D1 D2 hz hT hTI st1 st2 l1 l2 le fun h2 tk e hk he => ?_) (F.args_zip_next_1 _))))
    obtain ⟨o, ho, hc⟩ := he
    refine wpAny_bind (wpAny_isInstance (T := "StopIteration") (b := true) ⟨o, ho, hc⟩ isSubtype_stop ?_)
    exact wpAny_pure (hQ _ _ fun c o c1 _ c2 c3 e => hk c o c1 c2 c3 e)
/-- the rounds that fill a list with the pairs of a zip -/
theorem zip_fill {R : Result → Shared → Prop} {D lo : Addr} (res : Value) (hh : A.handled = none) (S : ZipSep2 z TI TO i1 i2 fp1 fp2) (D1 : Draws prog w A.in1.in1 i1 fp1 n1 P1 St1) (D2 : Draws prog w A.in1.in1 i2 fp2 n2 P2 St2) (dz : D ≠ z) (dI : D ≠ TI) (dO : D ≠ TO) (d1 : D ∉ fp1) (d2 : D ∉ fp2)
    (lz : z ≤ lo) (lI : TI ≤ lo) (lO : TO ≤ lo) (l1 : i1 ≤ lo) (l2 : i2 ≤ lo) (lD : D ≤ lo) (few : min n1 n2 ≤ sizeLine) :
    ∀ (k i : Nat) (s : Shared) (as : List Addr) (c : Nat), min n1 n2 - i = k → i ≤ min n1 n2 → ZAt z TI TO i1 i2 D St1 St2 i s.heap → s.heap.get? D = some { cls := .type "list", dict := none, data := .seq (as.map Value.ref).toArray c, slots := #[] } → as.length = i → lo < s.heap.objs.size → Made P1 P2 lo s.heap as →
      (∀ h2 tk as2 c2, (∀ b o, b ≠ D → b ≠ z → b ≠ TO → b ≠ i1 → b ≠ i2 → s.heap.get? b = some o → h2.get? b = some o) → h2.get? D = some { cls := .type "list", dict := none, data := .seq (as2.map Value.ref).toArray c2, slots := #[] } → as2.length = min n1 n2 → Made P1 P2 lo h2 as2 → R (.ok (.ret res)) { s with heap := h2, toks := tk }) →
      codeAny (model prog w) A (.builtin "list.extend.loop" ⟨[.ref D, .ref z, res], []⟩) R s := by
  intro k
  induction k with
  | zero =>
    intro i s as c hk hi za hD hl lo' m hR
    have en : i = min n1 n2 := by omega
    refine codeAny_builtin F.entry_extend_loop ?_
    rw [Around.under_plainId F.plain_extend_loop _]
    show wpAny _ A.in1 (pyNext (.ref z) >>= _) _ _ s
    have sz : ∀ a ∈ as, a ≠ z ∧ a ≠ TO ∧ a ≠ i1 ∧ a ≠ i2 := fun a ha => by
      have := (m.above a ha).1
      exact ⟨Nat.ne_of_gt (Nat.lt_of_le_of_lt lz this), Nat.ne_of_gt (Nat.lt_of_le_of_lt lO this), Nat.ne_of_gt (Nat.lt_of_le_of_lt l1 this), Nat.ne_of_gt (Nat.lt_of_le_of_lt l2 this)⟩
    refine wpAny_bind (zip_done (by simp [hh]) S D1 D2 za (by omega) (by omega) (by omega) fun h2 tk keep => ?_)
    refine wpAny_pure (hR h2 tk as c (fun b o _ b1 b2 b3 b4 e => keep b o b1 b2 b3 b4 e) ?_ (hl.trans en) ?_)
    · exact keep D _ dz dO (fun q => d1 (q ▸ S.mem1)) (fun q => d2 (q ▸ S.mem2)) hD
    · refine ⟨m.rise, fun a ha => ⟨(m.above a ha).1, ?_⟩, fun j a e => ?_⟩
      · obtain ⟨j, hj⟩ := List.mem_iff_getElem?.mp ha
        obtain ⟨x, y, t, _⟩ := m.at_ j a hj
        obtain ⟨b1, b2, b3, b4⟩ := sz a ha
        exact Heap.lt_size (keep a _ b1 b2 b3 b4 t)
      · obtain ⟨x, y, t, q1, q2⟩ := m.at_ j a e
        obtain ⟨b1, b2, b3, b4⟩ := sz a (List.mem_of_getElem? e)
        exact ⟨x, y, keep a _ b1 b2 b3 b4 t, q1, q2⟩
  | succ k ih =>
    intro i s as c hk hi za hD hl lo' m hR
    refine codeAny_builtin F.entry_extend_loop ?_
    rw [Around.under_plainId F.plain_extend_loop _]
    show wpAny _ A.in1 (pyNext (.ref z) >>= _) _ _ s
    have sz : ∀ a ∈ as, a ≠ z ∧ a ≠ TO ∧ a ≠ i1 ∧ a ≠ i2 ∧ a ≠ D := fun a ha => by
      have := (m.above a ha).1
      exact ⟨Nat.ne_of_gt (Nat.lt_of_le_of_lt lz this), Nat.ne_of_gt (Nat.lt_of_le_of_lt lO this), Nat.ne_of_gt (Nat.lt_of_le_of_lt l1 this), Nat.ne_of_gt (Nat.lt_of_le_of_lt l2 this), Nat.ne_of_gt (Nat.lt_of_le_of_lt lD this)⟩
    refine wpAny_bind (zip_next S D1 D2 za (by omega) (by omega) (Heap.lt_size hD) fun x y h2 tk q1 q2 za2 t keep => ?_)
    have hD2 := keep D _ dz dO (fun q => d1 (q ▸ S.mem1)) (fun q => d2 (q ▸ S.mem2)) hD
    show wpAny _ A.in1 (updateSeq D (·.push (.ref s.heap.objs.size)) >>= _) _ _ _
    refine wpAny_bind ?_
    have szD : s.heap.objs.size ≠ D := Nat.ne_of_gt (Heap.lt_size hD)
    have up : ∀ (b : Addr) (o : Obj), b ≠ D → h2.get? b = some o → (h2.update D (·.mapSeq (·.push (.ref s.heap.objs.size)))).get? b = some o := fun b o hb e => (Heap.get?_update_other _ _ (fun q : D = b => hb q.symm)).trans e
    obtain ⟨c9, e9⟩ : ∃ c9, (h2.update D (·.mapSeq (·.push (.ref s.heap.objs.size)))).get? D = some { cls := .type "list", dict := none, data := .seq ((as ++ [s.heap.objs.size]).map Value.ref).toArray c9, slots := #[] } := by
      rw [Heap.get?_update_self _ hD2 rfl]
      exact ⟨_, by simp [Obj.mapSeq]; rfl⟩
    refine wpAny_updateSeq hD2 rfl (wpAny_pure ⟨plainId_quiet F.plain_extend_loop _, ih (i + 1) _ (as ++ [s.heap.objs.size]) c9 (by omega) (by omega) ?_ e9 (by simp [hl]) ?_ ?_ fun h4 tk4 as4 c4 keep4 hD4 hl4 m4 => ?_⟩) (by simp [hl]; omega) (by simp [hl]; omega)
    · obtain ⟨hTI, st1, st2, zz⟩ := za2
      refine ⟨up _ _ (Ne.symm dI) hTI, D1.frame _ _ _ st1 fun b hb o e => up b o (fun q => d1 (q ▸ hb)) e, D2.frame _ _ _ st2 fun b hb o e => up b o (fun q => d2 (q ▸ hb)) e, ?_⟩
      rcases zz with ⟨hz, a, b, hTO⟩ | ⟨T, f, oT, hz, hT, r1, r2, r3, r4⟩
      · exact .inl ⟨up _ _ (Ne.symm dz) hz, a, b, up _ _ (Ne.symm dO) hTO⟩
      · exact .inr ⟨T, f, oT, up _ _ (Ne.symm dz) hz, up _ _ r4 hT, r1, r2, r3, r4⟩
    · have := Heap.lt_size (up _ _ szD t)
      exact Nat.lt_trans lo' this
    · refine Made.add (m.up (fun a ha o e => ?_) ?_) (fun b hb => (m.above b hb).2) lo' (up _ _ szD t) (hl ▸ q1) (hl ▸ q2)
      · obtain ⟨b1, b2, b3, b4, b5⟩ := sz a ha
        exact up _ _ b5 (keep a _ b1 b2 b3 b4 e)
      · exact Nat.le_of_lt (Heap.lt_size (up _ _ szD t))
    · exact hR h4 tk4 as4 c4 (fun b o b0 b1 b2 b3 b4 e => keep4 b o b0 b1 b2 b3 b4 (up b o b0 (keep b o b1 b2 b3 b4 e))) hD4 hl4 m4
end
end GN

set_option Elab.async false
set_option linter.all false
set_option autoImplicit false
set_option maxRecDepth 100000
set_option maxHeartbeats 4000000
namespace GN
open PySem PySem.Spec PyProof.Rows L2 G
theorem zip_no_len : typeLookup (.type "zip") "__len__" = pure none := am_miss_of_fast (by decide +kernel)
theorem zip_no_hint : typeLookup (.type "zip") "__length_hint__" = pure none := am_miss_of_fast (by decide +kernel)
section
variable {prog : Program} {w : World} {A : Around} {E : Value → Shared → Prop} {s : Shared} {z TI TO i1 i2 : Addr} {fp1 fp2 : List Addr} {n1 n2 : Nat} {P1 P2 : Nat → Value → Prop} {St1 St2 : Nat → Heap → Prop}
theorem zip_hint (hT : s.TypeIs (.ref z) "zip") {Q : Bool → Shared → Prop} (h : Q true s) : wpAny (model prog w) A (Builtin.List.listLengthHint (.ref z)) Q E s := by
  unfold Builtin.List.listLengthHint
  refine wpAny_bind (wpAny_specialOf hT zip_no_len ?_)
  generalize hN : (none : Option Value) = N
  wp_delta
  subst hN
  refine wpAny_ite_split (fun q => absurd q (by decide)) (fun _ => ?_)
  refine wpAny_ite_split (fun q => absurd q (by decide)) (fun _ => ?_)
  first
    | exact wpAny_bind (wpAny_specialOf hT zip_no_hint (wpAny_pure h))
    | exact wpAny_bind (wpAny_pure (wpAny_bind (wpAny_specialOf hT zip_no_hint (wpAny_pure h))))
/-- list(z) of a fresh zip -/
theorem list_zip {Q : Value → Shared → Prop} (hh : A.handled = none) (S : ZipSep2 z TI TO i1 i2 fp1 fp2) (D1 : Draws prog w A.in1.in1.in1 i1 fp1 n1 P1 St1) (D2 : Draws prog w A.in1.in1.in1 i2 fp2 n2 P2 St2) (few : min n1 n2 ≤ sizeLine)
    (hz : IsZip s.heap z TI TO .none) (hTI : IsTupOf2 s.heap TI (.ref i1) (.ref i2)) (hTO : ∃ a b, IsTupOf2 s.heap TO a b) (st1 : St1 0 s.heap) (st2 : St2 0 s.heap) (f1 : ∀ b ∈ fp1, b < s.heap.objs.size) (f2 : ∀ b ∈ fp2, b < s.heap.objs.size)
    (hQ : ∀ h2 tk as c, (∀ b o, b ≠ z → b ≠ TO → b ≠ i1 → b ≠ i2 → s.heap.get? b = some o → h2.get? b = some o) → h2.get? s.heap.objs.size = some { cls := .type "list", dict := none, data := .seq (as.map Value.ref).toArray c, slots := #[] } → as.length = min n1 n2 → Made P1 P2 s.heap.objs.size h2 as → Q (.ref s.heap.objs.size) { s with heap := h2, toks := tk }) :
    wpAny (model prog w) A (call (.type "list") [.ref z]) Q E s := by
  refine callType_codes (Q₁ := fun obj s1 => obj = .ref s.heap.objs.size ∧ s1 = { s with heap := s.heap.push { cls := .type "list", data := .seq #[] } }) PySem.F.called_list (PySem.F.typeCall_list_1 _) PySem.F.entry_list_init (code_list_new _ ⟨rfl, rfl⟩) fun obj s1 h1 => ?_
  obtain ⟨rfl, rfl⟩ := h1
  have hS : (s.heap.push { cls := .type "list", data := .seq #[] }).get? s.heap.objs.size = some { cls := .type "list", data := .seq #[] } := Heap.get?_push_size _ rfl
  refine ⟨⟨_, hS, rfl⟩, PySem.F.args_list_init_2 _ _, ?_⟩
  have lt : ∀ {c o}, s.heap.get? c = some o → c < s.heap.objs.size := fun e => Heap.lt_size e
  obtain ⟨a, b, hTO⟩ := hTO
  have li1 : i1 < s.heap.objs.size := f1 _ S.mem1
  have li2 : i2 < s.heap.objs.size := f2 _ S.mem2
  show wpAny _ _ (do let old ← Builtin.List.listItems (.ref s.heap.objs.size); Builtin.List.listUpdate (.ref s.heap.objs.size) (fun _ => #[]); letGo old.toList.reverse; Builtin.List.listExtendWith (.ref s.heap.objs.size) (.ref z) .none) _ _ _
  refine wpAny_bind ?_
  unfold Builtin.List.listItems
  refine wpAny_bind (wpAny_seqItems hS rfl (wpAny_pure ?_))
  show wpAny _ _ (updateSeq s.heap.objs.size (fun _ => #[]) >>= fun _ => letGo (#[] : Array Value).toList.reverse >>= fun _ => Builtin.List.listExtendWith (.ref s.heap.objs.size) (.ref z) .none) _ _ _
  refine wpAny_bind (wpAny_updateSeq hS rfl ?_)
  have hS2 := Heap.get?_update_self (Obj.mapSeq (fun _ => (#[] : Array Value))) hS rfl
  have oth : ∀ c o, s.heap.get? c = some o → ((s.heap.push { cls := .type "list", data := .seq #[] }).update s.heap.objs.size (Obj.mapSeq (fun _ => (#[] : Array Value)))).get? c = some o := fun c o e =>
    (Heap.get?_update_other _ _ (Nat.ne_of_gt (lt e))).trans (Heap.get?_push_of_some _ e)
  refine wpAny_bind (wpAny_letGo ?_)
  have hz2 := oth _ _ hz
  have tz : Shared.TypeIs { s with heap := (s.heap.push { cls := .type "list", data := .seq #[] }).update s.heap.objs.size (Obj.mapSeq (fun _ => (#[] : Array Value))) } (.ref z) "zip" := ⟨_, hz2, rfl⟩
  unfold Builtin.List.listExtendWith
  refine wpAny_bind (wpAny_typeOf (T := "zip") tz ?_)
  have g1 : Builtin.List.listSameRef (.ref s.heap.objs.size) (.ref z) = false := by
    have : s.heap.objs.size ≠ z := Nat.ne_of_gt (lt hz)
    simp [Builtin.List.listSameRef, this]
  have g2 : (Value.type "zip" == Value.type "list") = false := by decide
  have g3 : (Value.type "zip" == Value.type "tuple") = false := by decide
  simp only [g1, g2, g3, Bool.or_false, Bool.false_eq_true, if_false]
  refine wpAny_bind (wpAny_pyIter_zip hz2 (wpAny_bind (wpAny_holding (zip_hint tz ?_))))
  refine wpAny_ite_split (fun _ => ?_) (fun q => absurd (by simp) q)
  refine wpAny_bind (wpAny_rule (wpAny_bind ?_))
  show wpAny _ _ (updateSeq s.heap.objs.size (·.push .none) >>= fun _ => updateSeq s.heap.objs.size (·.pop)) _ _ _
  refine wpAny_bind (wpAny_updateSeq hS2 rfl ?_)
  have hS3 := Heap.get?_update_self (Obj.mapSeq (·.push Value.none)) hS2 rfl
  refine wpAny_updateSeq (hz := by seq_fits) hS3 rfl ?_
  have hS4 := Heap.get?_update_self (Obj.mapSeq (·.pop)) hS3 rfl
  have oth2 : ∀ c o, s.heap.get? c = some o → ((((s.heap.push { cls := .type "list", data := .seq #[] }).update s.heap.objs.size (Obj.mapSeq (fun _ => (#[] : Array Value)))).update s.heap.objs.size (Obj.mapSeq (·.push Value.none))).update s.heap.objs.size (Obj.mapSeq (·.pop))).get? c = some o := fun c o e =>
    (Heap.get?_update_other _ _ (Nat.ne_of_gt (lt e))).trans ((Heap.get?_update_other _ _ (Nat.ne_of_gt (lt e))).trans (oth c o e))
  refine wpAny_pure ⟨plainId_quiet PySem.F.plain_extend_loop _, ?_⟩
  obtain ⟨c9, e9⟩ : ∃ c9, ((((s.heap.push { cls := .type "list", data := .seq #[] }).update s.heap.objs.size (Obj.mapSeq (fun _ => (#[] : Array Value)))).update s.heap.objs.size (Obj.mapSeq (·.push Value.none))).update s.heap.objs.size (Obj.mapSeq (·.pop))).get? s.heap.objs.size = some { cls := .type "list", dict := none, data := .seq (([] : List Addr).map Value.ref).toArray c9, slots := #[] } := by
    rw [hS4]
    exact ⟨_, by simp [Obj.mapSeq]; rfl⟩
  refine zip_fill (D := s.heap.objs.size) (lo := s.heap.objs.size) .none (by simp [hh]) S D1 D2 (Nat.ne_of_gt (lt hz)) (Nat.ne_of_gt (lt hTI)) (Nat.ne_of_gt (lt hTO)) (fun q => Nat.lt_irrefl _ (f1 _ q)) (fun q => Nat.lt_irrefl _ (f2 _ q))
    (Nat.le_of_lt (lt hz)) (Nat.le_of_lt (lt hTI)) (Nat.le_of_lt (lt hTO)) (Nat.le_of_lt li1) (Nat.le_of_lt li2) (Nat.le_refl _) few _ 0 _ [] c9 rfl (Nat.zero_le _)
    ⟨oth2 _ _ hTI, D1.frame _ _ _ st1 fun b _ o e => oth2 b o e, D2.frame _ _ _ st2 fun b _ o e => oth2 b o e, .inl ⟨oth2 _ _ hz, a, b, oth2 _ _ hTO⟩⟩ e9 rfl ?_ ⟨.nil, nofun, fun j a e => by simp at e⟩ fun h2 tk as c keep hD hl m => ?_
  · exact Heap.lt_size hS4
  · exact ⟨rfl, hQ h2 tk as c (fun b o b1 b2 b3 b4 e => keep b o (Nat.ne_of_lt (lt e)) b1 b2 b3 b4 (oth2 b o e)) hD hl m⟩
end
end GN

set_option Elab.async false
set_option linter.all false
set_option autoImplicit false
set_option maxRecDepth 100000
set_option maxHeartbeats 4000000
namespace GN
open PySem PySem.Spec PyProof.Rows L2 G
/-- pairs laid at their addresses -/
def lay : Hp → List Addr → List (V × V) → Hp
  | H, a :: as, p :: ps => lay (upd H a (.tup [p.1, p.2])) as ps
  | H, _, _ => H
theorem lay_off {b : Addr} : ∀ {as : List Addr} {ps : List (V × V)} {H : Hp}, b ∉ as → lay H as ps b = H b
  | [], _, _, _ => rfl
  | _ :: _, [], _, _ => rfl
  | a :: as, p :: ps, H, h => by
    simp only [List.mem_cons, not_or] at h
    rw [lay, lay_off h.2, upd_ne h.1]
theorem lay_at : ∀ {as : List Addr} {ps : List (V × V)} {H : Hp} {j : Nat} {a : Addr} {p : V × V}, as.Nodup → as[j]? = some a → ps[j]? = some p → lay H as ps a = some (.tup [p.1, p.2])
  | [], _, _, _, _, _, _, h, _ => by simp at h
  | _ :: _, [], _, _, _, _, _, _, h => by simp at h
  | a :: as, p :: ps, H, 0, b, q, n, h1, h2 => by
    simp only [List.getElem?_cons_zero, Option.some.injEq] at h1 h2
    subst h1; subst h2
    rw [lay, lay_off (List.nodup_cons.mp n).1, upd_same]
  | a :: as, p :: ps, H, j + 1, b, q, n, h1, h2 => by
    rw [lay]
    exact lay_at (j := j) (List.nodup_cons.mp n).2 (by simpa using h1) (by simpa using h2)
theorem lay_some : ∀ {as : List Addr} {ps : List (V × V)} {H : Hp} {a : Addr} {u : HO}, as.length = ps.length → as.Nodup → a ∈ as → lay H as ps a = some u → ∃ (j : Nat) (p : V × V), as[j]? = some a ∧ ps[j]? = some p ∧ u = .tup [p.1, p.2] := by
  intro as ps H a u hl n ha e
  obtain ⟨j, hj⟩ := List.mem_iff_getElem?.mp ha
  have lt := (List.getElem?_eq_some_iff.mp hj).1
  have hp : ps[j]? = some (ps[j]'(hl ▸ lt)) := List.getElem?_eq_getElem _
  rw [lay_at n hj hp] at e
  exact ⟨j, _, hj, hp, (Option.some.inj e).symm⟩
/-- list(zip(a, b)) of two tuples -/
def tZipL (K : PySem.W.Frag) (ta : TA) : TE := fun σ H Q => ta σ H fun vs H1 => ∃ a b xs ys, vs = [.ref a, .ref b] ∧ SqT K H1 a xs ∧ SqT K H1 b ys ∧
  ∀ (H2 : Hp) (p : Addr) (as : List Addr), (∀ q o, H1 q = some o → H2 q = some o) → H1 p = none → (∀ t ∈ as, H1 t = none) → H2 p = some (.lst (as.map V.ref)) → as.length = min xs.length ys.length →
    (∀ (j : Nat) (t : Addr), as[j]? = some t → ∃ x y, xs[j]? = some x ∧ ys[j]? = some y ∧ H2 t = some (.tup [x, y])) → Q (.ref p) H2
section
variable {X : Cx} {e e2 : Expr} {ta : TA} {p p2 q pos : Pos}
theorem pe_zipL (hc : X.calm = true) (g1 : Gl X "list") (m1 : X.mg "list" = none) (v1 : bootBuiltins "list" = some (.type "list")) (g2 : Gl X "zip") (m2 : X.mg "zip" = none) (ha : PA X [e, e2] ta) (hs : starEach [e, e2] X.env = (false, eval e X.env) :: starEach [e2] X.env) (hpl : (backTo q (starEach [e2] X.env)).any (·.1) = false) :
    PE X (.Call (.Name "list" p) [.Call (.Name "zip" p2) [e, e2] [] q] [] pos) (tZipL X.K ta) := by
  refine ⟨fun pins s σ H Q I h => Call_ (ld_blt I g1 m1 v1 ?_)⟩
  refine PyProof.Rows.callWith_type1 (PyProof.Rows.args_cons (Call_ (ld_blt I g2 m2 PyProof.Rows.boot_zip ?_)) rfl) rfl rfl
  refine PyProof.Rows.callWith_type1 (thn (ha.run q pins s σ H _ I h) fun us s1 ⟨vs, H1, I1, r1, a, b, xs, ys, ex, hx, hy, k⟩ => ?_) hs hpl
  subst ex
  obtain ⟨u1, u2, rfl, ra, rb⟩ := vals2 r1
  cases ra
  cases rb
  obtain ⟨its, rv, t1, z1⟩ := I1.tuple hx
  obtain ⟨its2, rv2, t2, z2⟩ := I1.tuple hy
  have la : a < s1.heap.objs.size := let ⟨_, q, _⟩ := t1; Heap.lt_size q
  have lb : b < s1.heap.objs.size := let ⟨_, q, _⟩ := t2; Heap.lt_size q
  have hh := I1.ok.hd hc
  refine RZ.call_zipT (show s1.heap.IsTuple a its.toArray from t1) (show s1.heap.IsTuple b its2.toArray from t2) fun h1 hz hTI hTO d1 d2 sz1 keep => PyProof.Rows.args_nil ?_
  have e1 : its.toArray.size = xs.length := by rw [List.size_toArray, rv.length]
  have e2' : its2.toArray.size = ys.length := by rw [List.size_toArray, rv2.length]
  have D1 := Draws.tuple (prog := X.prog) (w := X.w) (A := X.A.in1.in1.in1) (by simp [hh]) s1.heap.objs.size a (Nat.ne_of_lt la) its.toArray
  have D2 := Draws.tuple (prog := X.prog) (w := X.w) (A := X.A.in1.in1.in1) (by simp [hh]) (s1.heap.objs.size + 1) b (Nat.ne_of_lt (Nat.lt_succ_of_lt lb)) its2.toArray
  have T1 : h1.IsTuple a its.toArray := let ⟨o, q, r⟩ := t1; ⟨o, keep _ _ q, r⟩
  have T2 : h1.IsTuple b its2.toArray := let ⟨o, q, r⟩ := t2; ⟨o, keep _ _ q, r⟩
  have sep : ZipSep2 (s1.heap.objs.size + 4) (s1.heap.objs.size + 2) (s1.heap.objs.size + 3) s1.heap.objs.size (s1.heap.objs.size + 1) [s1.heap.objs.size, a] [s1.heap.objs.size + 1, b] := by
    refine ⟨?_, ?_, ?_, ?_, ?_, ?_, ?_, ?_, ?_, ?_, ?_, ?_, ?_⟩ <;> (try simp only [List.mem_cons, List.not_mem_nil, or_false, not_or, true_or]) <;> (unfold Addr at *; omega)
  refine list_zip (s := { s1 with heap := h1 }) hh sep D1 D2 (by rw [e1]; exact Nat.le_trans (Nat.min_le_left ..) z1) hz hTI ⟨_, _, hTO⟩ ⟨d1, T1⟩ ⟨d2, T2⟩ ?_ ?_ fun h2 tk as c keep2 hD hl m => ?_
  · intro c hcm
    show c < h1.objs.size
    rw [sz1]
    simp only [List.mem_cons, List.not_mem_nil, or_false] at hcm
    unfold Addr at *
    omega
  · intro c hcm
    show c < h1.objs.size
    rw [sz1]
    simp only [List.mem_cons, List.not_mem_nil, or_false] at hcm
    unfold Addr at *
    omega
  · have keepS : ∀ b o, s1.heap.get? b = some o → h2.get? b = some o := fun b o e => by
      have lt := Heap.lt_size e
      exact keep2 b o (by unfold Addr at *; omega) (by unfold Addr at *; omega) (by unfold Addr at *; omega) (by unfold Addr at *; omega) (keep b o e)
    have szD : s1.heap.objs.size ≤ h1.objs.size := by rw [sz1]; omega
    have nd : as.Nodup := List.Pairwise.imp (fun {a b} (h : a < b) => Nat.ne_of_lt h) m.rise
    have new : ∀ t ∈ as, H1 t = none := fun t ht => I1.hok.fresh (Nat.le_trans szD (Nat.le_of_lt (m.above t ht).1))
    have newD : H1 h1.objs.size = none := I1.hok.fresh szD
    have outD : h1.objs.size ∉ as := fun q => Nat.lt_irrefl _ (m.above _ q).1
    have ln : as.length = (xs.zip ys).length := by rw [hl, e1, e2', List.length_zip]
    have kp : ∀ b u, H1 b = some u → (lay (upd H1 h1.objs.size (.lst (as.map V.ref))) as (xs.zip ys)) b = some u := fun b u e => by
      rw [lay_off (fun q => by rw [new b q] at e; cases e), upd_ne (fun q => by rw [q, newD] at e; cases e)]
      exact e
    have atD : (lay (upd H1 h1.objs.size (.lst (as.map V.ref))) as (xs.zip ys)) h1.objs.size = some (.lst (as.map V.ref)) := by rw [lay_off outD, upd_same]
    have lowD : ∀ b o, s1.heap.get? b = some o → b ∉ as ∧ b ≠ h1.objs.size := fun b o e => by
      have lt := Heap.lt_size e
      exact ⟨fun q => absurd (Nat.lt_of_lt_of_le lt szD) (Nat.not_lt.mpr (Nat.le_of_lt (m.above b q).1)), Nat.ne_of_lt (Nat.lt_of_lt_of_le lt szD)⟩
    have I9 : Inv X pins σ (lay (upd H1 h1.objs.size (.lst (as.map V.ref))) as (xs.zip ys)) { s1 with heap := h2, toks := tk } := by
      refine I1.call' (ch := []) rfl ⟨fun b o q _ _ _ => keepS b o q, fun b o q _ _ _ => ⟨o.slots, keepS b o q⟩, fun b o q n _ => ?_, fun b o q _ => ⟨o, keepS b o q⟩, fun b xs q => kp b _ q, fun b o u q => kp b _ q, fun b ps q => ⟨#[], by rw [kp b _ q]; simp⟩⟩ (fun b u q => ?_) I1.bare fun b z => by simp at z
      · obtain ⟨c1, c2⟩ := lowD b o q
        rw [lay_off c1, upd_ne c2]
        exact n
      · by_cases hb : b ∈ as
        · obtain ⟨j, pr, f1, f2, rfl⟩ := lay_some ln nd hb q
          obtain ⟨x, y, tt, q1, q2⟩ := m.at_ j b f1
          have g := List.getElem?_zip_eq_some.mp f2
          obtain ⟨v1', w1, w2⟩ := rv.get g.1
          obtain ⟨v2', w3, w4⟩ := rv2.get g.2
          have q1' : its[j]? = some x := by simpa using q1
          have q2' : its2[j]? = some y := by simpa using q2
          rw [w1] at q1'; cases q1'
          rw [w3] at q2'; cases q2'
          exact ⟨by show 2 ≤ sizeLine; decide, [x, y], .cons w2 (.cons w4 .nil), ⟨_, tt, rfl, _, rfl⟩⟩
        · by_cases hb2 : b = h1.objs.size
          · subst hb2
            rw [atD] at q
            cases q
            refine ⟨by rw [List.length_map, hl, e1]; exact Nat.le_trans (Nat.min_le_left ..) z1, as.map Value.ref, c, LiI.vals_refs as, hD⟩
          · rw [lay_off hb, upd_ne hb2] at q
            exact (I1.hok b u q).stay (fun d v _ y => keepS d v y) (fun d y => kp d _ y) fun d xs y => kp d _ y
    refine ⟨.ref h1.objs.size, _, I9, rfl, k _ _ as kp newD new atD (by rw [hl, e1, e2']) fun j t ht => ?_⟩
    have lt := (List.getElem?_eq_some_iff.mp ht).1
    have hp : (xs.zip ys)[j]? = some ((xs.zip ys)[j]'(ln ▸ lt)) := List.getElem?_eq_getElem _
    have g := List.getElem?_zip_eq_some.mp hp
    exact ⟨_, _, g.1, g.2, lay_at nd ht hp⟩
end
end GN

set_option Elab.async false
set_option linter.all false
set_option autoImplicit false
set_option maxRecDepth 100000
set_option maxHeartbeats 2000000
/-! G3: the operators. -/
namespace G
open PySem L2
section
variable {X : Cx} {C : Cn}
theorem strOf_len (l : List Nat) : (strOf l).length = l.length := by show l.toArray.size = l.length; simp
theorem strOf_app (x y : List Nat) : strOf x ++ strOf y = strOf (x ++ y) := by
  show Str.append _ _ = _
  simp [Str.append, strOf]
theorem okS_app {x y : List Nat} (a : okS x) (b : okS y) : okS (x ++ y) := fun c h => (List.mem_append.mp h).elim (a c) (b c)
theorem line_eq : line = sizeLine := by rw [sizeLine_eq]; rfl
theorem rep_flat {α : Type} (n : Nat) (xs : List α) : rep n xs = (List.replicate n xs).flatten := by
  induction n with
  | zero => rfl
  | succ n ih => simp [rep, ih, List.replicate_succ]
theorem Reps.rep {ρ : List Addr} {H : Hp} {ws : List W} {vs : List V} (r : Reps C ρ H ws vs) : ∀ n, Reps C ρ H (rep n ws) (List.replicate n vs).flatten
  | 0 => by simp only [G.rep, List.replicate_zero, List.flatten_nil, Reps]
  | n + 1 => by
    simp only [G.rep, List.replicate_succ, List.flatten_cons]
    exact Reps.app r (Reps.rep r n)
theorem okS_rep {l : List Nat} (h : okS l) : ∀ n, okS (rep n l)
  | 0 => fun _ q => nomatch q
  | n + 1 => okS_app h (okS_rep h n)
theorem rep_len {α : Type} (l : List α) : ∀ n, (rep n l).length = n * l.length
  | 0 => by simp [rep]
  | n + 1 => by rw [rep, List.length_append, rep_len l n, Nat.succ_mul, Nat.add_comm]
theorem size_repA {α : Type} (its : List α) : ∀ (m : Nat) (acc : List α), (List.foldl (fun x1 x2 => x1 ++ x2) acc.toArray (List.replicate m its.toArray)) = (acc ++ (List.replicate m its).flatten).toArray
  | 0, acc => by simp
  | m + 1, acc => by
    rw [List.replicate_succ, List.foldl_cons]
    have e : acc.toArray ++ its.toArray = (acc ++ its).toArray := by simp
    rw [e, size_repA its m (acc ++ its)]
    simp [List.replicate_succ, List.append_assoc]
/-- two values' operator -/
def rOp (C : Cn) (g : W → W → ST → Option W) : R2 := fun x y H Q => ∃ ρ s a b w, SR C ρ H s ∧ Rep C ρ H a x ∧ Rep C ρ H b y ∧ g a b s = some w ∧ OkP C ρ H s w Q
def bopO : Bop → Operator
  | .add => .Add | .sub => .Sub | .mul => .Mult | .fdiv => .FloorDiv | .mod => .Mod | .pow => .Pow
theorem big_log {i j : Int} (h0 : 0 < j) (h : j < big) : CDivW i j := by
  refine wide_div (b := 64) h0 ?_ (by decide) (by decide)
  have : big = 2 ^ 64 := rfl
  omega
theorem op_bin (hX : X.K = C.K) (op : Bop) : OpR X (binaryOp (bopO op)) (rOp C (binop op)) := by
  intro pins st σ H x y v u Q I rx ry h
  obtain ⟨ρ, s, a, b, w, S, ra, rb, e, k⟩ := h
  unfold binop at e
  split at e
  · -- int + int
    cases e
    rw [ra.int] at rx; rw [rb.int] at ry
    exact op_add pins st σ H _ _ v u Q I rx ry ⟨_, _, rfl, rfl, k.here S Rep.mkI⟩
  · rename_i x' y'
    split at e
    · rename_i hl
      cases e
      obtain ⟨e1, o1⟩ := ra.str
      obtain ⟨e2, o2⟩ := rb.str
      rw [e1] at rx; rw [e2] at ry
      refine op_add_str pins st σ H _ _ v u Q I rx ry ⟨_, _, rfl, rfl, by rw [strOf_len, strOf_len, ← line_eq]; exact hl, ?_⟩
      rw [strOf_app]
      exact k.here S (Rep.mkS (okS_app o1 o2))
    · cases e
  · split at e
    · rename_i hl
      cases e
      obtain ⟨p, vs, rfl, q1, r1⟩ := ra.tup
      obtain ⟨p2, vs2, rfl, q2, r2⟩ := rb.tup
      refine op_catA pins st σ H _ _ v u Q I rx ry ⟨p, p2, vs, vs2, rfl, rfl, hX ▸ q1.sq, hX ▸ q2.sq, by rw [← r1.length, ← r2.length, ← line_eq]; exact hl, fun h0 => ?_, fun _ h0 => ?_, fun _ _ => k.tup S (r1.app r2)⟩
      · subst h0
        have e0 := r1.length
        rw [List.length_nil, List.length_eq_zero_iff] at e0
        subst e0
        exact k.here S rb
      · subst h0
        have e0 := r2.length
        rw [List.length_nil, List.length_eq_zero_iff] at e0
        subst e0
        refine k.here S ?_
        rw [List.append_nil]; exact ra
    · cases e
  · split at e
    · rename_i xs ys h1 h2
      split at e
      · rename_i hl
        cases e
        obtain ⟨p, vs, rfl, q1, r1⟩ := seqL_rep S ra h1
        obtain ⟨p2, vs2, rfl, q2, r2⟩ := seqL_rep S rb h2
        exact op_cat pins st σ H _ _ v u Q I rx ry ⟨p, p2, vs, vs2, rfl, rfl, q1, q2, by rw [← r1.length, ← r2.length, ← line_eq]; exact hl, k.lst S (r1.app r2)⟩
      · cases e
    · cases e
  · cases e
    rw [ra.int] at rx; rw [rb.int] at ry
    exact op_sub pins st σ H _ _ v u Q I rx ry ⟨_, _, rfl, rfl, k.here S Rep.mkI⟩
  · split at e
    · rename_i hc
      cases e
      rw [ra.int] at rx; rw [rb.int] at ry
      exact op_mul pins st σ H _ _ v u Q I rx ry ⟨_, _, rfl, rfl, hc, k.here S Rep.mkI⟩
    · cases e
  · split at e
    · rename_i hc
      cases e
      rw [ra.int] at rx; rw [rb.int] at ry
      exact op_fdivW pins st σ H _ _ v u Q I rx ry ⟨_, _, rfl, rfl, big_log hc.1 hc.2, k.here S Rep.mkI⟩
    · cases e
  · split at e
    · rename_i hc
      cases e
      rw [ra.int] at rx; rw [rb.int] at ry
      exact op_mod pins st σ H _ _ v u Q I rx ry ⟨_, _, rfl, rfl, hc, k.here S Rep.mkI⟩
    · cases e
  · split at e
    · rename_i hc
      cases e
      rw [ra.int] at rx; rw [rb.int] at ry
      refine op_pow pins st σ H _ _ v u Q I rx ry ⟨_, _, rfl, rfl, ⟨hc.1, hc.2.1, ?_⟩, k.here S Rep.mkI⟩
      have : big = 2 ^ 64 := rfl
      omega
    · cases e
  · split at e
    · rename_i xs n hc
      cases e
      obtain ⟨p, vs, rfl, q1, r1⟩ := ra.tup
      rw [rb.int] at ry
      refine op_repT pins st σ H _ _ v u Q I rx ry ⟨p, _, vs, rfl, rfl, hX ▸ q1.sq, fun h0 => ?_, hc.1, hc.2.1, by rw [← r1.length]; exact hc.2.2.2, k.tup S (r1.rep _)⟩
      have := r1.length
      rw [h0, List.length_nil] at this
      omega
    · cases e
  · split at e
    · rename_i xs n hc
      cases e
      simp only [Rep] at ra
      obtain ⟨p, vs, rfl, _, q1, r1⟩ := ra
      rw [rb.int] at ry
      exact op_rep pins st σ H _ _ v u Q I rx ry ⟨p, _, vs, rfl, rfl, q1, by omega, by omega, by rw [← r1.length, ← line_eq]; exact hc.2.2, k.lst S (r1.rep _)⟩
    · cases e
  · split at e
    · rename_i xs n hc
      cases e
      obtain ⟨e1, o1⟩ := ra.str
      rw [e1] at rx; rw [rb.int] at ry
      obtain ⟨t1, rfl⟩ := rx
      obtain ⟨t2, rfl⟩ := ry
      have fin : ∀ tk, EP X pins σ Q (.str (strOf (rep n.toNat xs)) tk) { st with toks := st.toks + 1 } := fun tk => ⟨.str _, H, I.tok _, ⟨_, rfl⟩, k.here S (Rep.mkS (okS_rep o1 _))⟩
      have fin0 : ∀ tk, EP X pins σ Q (.str (strOf (rep n.toNat xs)) tk) st := fun tk => ⟨.str _, H, I, ⟨_, rfl⟩, k.here S (Rep.mkS (okS_rep o1 _))⟩
      have hl : xs.length * n.toNat ≤ sizeLine := by rw [← line_eq]; exact hc.2.2
      refine PySem.P.mul_str ?_ ?_ ?_ ?_
      · rw [decide_eq_false (by omega), decide_eq_false (by omega)]; rfl
      · intro h1 _ hgt
        have h2 : 0 < n := by omega
        have h3 : ((2 : Int) ^ 63 - 1) / n * n ≤ 2 ^ 63 - 1 := Int.ediv_mul_le _ (by omega)
        rw [strOf_len] at hgt
        have h4 : (xs.length : Int) * n.toNat ≤ sizeLine := by exact_mod_cast hl
        have hs : (sizeLine : Int) = 16777216 := by rw [sizeLine_eq]; rfl
        have hn : (n.toNat : Int) = n := Int.toNat_of_nonneg (by omega)
        rw [hn, hs] at h4
        have h5 : ((2 : Int) ^ 63 - 1) / n + 1 ≤ xs.length := hgt
        have h6 : (((2 : Int) ^ 63 - 1) / n + 1) * n ≤ xs.length * n := Int.mul_le_mul_of_nonneg_right h5 (by omega)
        have h7 : (2 : Int) ^ 63 - 1 < (((2 : Int) ^ 63 - 1) / n + 1) * n := Int.lt_mul_of_ediv_lt h2 (by omega)
        omega
      · intro _ _
        rw [strOf_len]
        unfold Builtin.Str.tooLong
        exact decide_eq_false (by omega)
      · split
        · rename_i h1
          have h0 : n.toNat = 0 := by omega
          have f := fin st.toks
          rw [h0] at f
          exact ⟨by decide, f⟩
        · split
          · rename_i h1 h2
            have e : rep n.toNat xs = xs := by
              rcases Bool.or_eq_true _ _ |>.mp h2 with h | h
              · have : n = 1 := by simpa using h
                subst this
                show xs ++ [] = xs
                simp
              · have : xs.length = 0 := by rw [← strOf_len]; simpa using h
                rw [List.length_eq_zero_iff] at this
                subst this
                rw [rep_flat]
                generalize n.toNat = m
                induction m with
                | zero => rfl
                | succ m ih => simpa [List.replicate_succ] using ih
            have f := fin0 t1
            rw [e] at f
            exact f
          · have e : (⟨(List.replicate n.toNat (strOf xs).cps).foldl (· ++ ·) #[]⟩ : Str) = strOf (rep n.toNat xs) := by
              rw [rep_flat]
              have := size_repA xs n.toNat []
              show (⟨(List.replicate n.toNat xs.toArray).foldl (· ++ ·) #[]⟩ : Str) = ⟨_⟩
              rw [this]; rfl
            rw [e]
            refine ⟨?_, fin _⟩
            rw [strOf_len, rep_len, Nat.mul_comm]
            exact hl
    · cases e
  · cases e
end
end G

set_option Elab.async false
set_option linter.all false
set_option autoImplicit false
set_option maxRecDepth 100000
set_option maxHeartbeats 2000000
/-! G4: comparisons. -/
namespace G
open PySem L2
section
variable {C : Cn} {ρ : List Addr} {H : Hp}
/-- a value as it is read: a list may be one of the store -/
def Vw (C : Cn) (ρ : List Addr) (H : Hp) : W → V → Prop
  | .lst xs, v => ∃ p vs, v = .ref p ∧ H p = some (.lst vs) ∧ Reps C ρ H xs vs
  | a, v => Rep C ρ H a v
theorem Rep.vw {a : W} {v : V} (r : Rep C ρ H a v) : Vw C ρ H a v := by
  cases a with
  | lst xs =>
    simp only [Rep] at r
    obtain ⟨p, vs, e, _, e2, q⟩ := r
    exact ⟨p, vs, e, e2, q⟩
  | _ => exact r
theorem deref_vw {s : ST} {a b : W} {v : V} (S : SR C ρ H s) (r : Rep C ρ H a v) (h : deref s a = some b) : Vw C ρ H b v := by
  cases a with
  | ref n =>
    simp only [deref] at h
    split at h
    · rename_i xs e
      cases h
      obtain ⟨p, vs, e1, e2, q⟩ := seqL_rep (a := .ref n) (xs := xs) S r e
      exact ⟨p, vs, e1, e2, q⟩
    · cases h
  | htup xs =>
    simp only [deref, Option.some.injEq] at h; subst h
    exact (Rep.soft (.htup xs) v r).vw
  | _ => simp only [deref, Option.some.injEq] at h; subst h; exact r.vw
def pairE (xs ys : List W) (j : Nat) : Bool := weq (xs.getD j .non) (ys.getD j .non)
theorem weqs_all : ∀ xs ys : List W, ((List.range (min xs.length ys.length)).all (pairE xs ys) && xs.length == ys.length) = weqs xs ys
  | [], [] => by simp [weqs]
  | [], _ :: _ => by simp [weqs]
  | _ :: _, [] => by simp [weqs]
  | x :: xs, y :: ys => by
    have ih := weqs_all xs ys
    have e : min (xs.length + 1) (ys.length + 1) = min xs.length ys.length + 1 := by omega
    have e2 : ((List.range (min xs.length ys.length + 1)).all (pairE (x :: xs) (y :: ys))) = (weq x y && (List.range (min xs.length ys.length)).all (pairE xs ys)) := by
      rw [List.range_succ_eq_map, List.all_cons, List.all_map]
      rfl
    rw [List.length_cons, List.length_cons, e, e2, weqs, ← ih]
    cases weq x y <;> simp
theorem weqs_len {xs ys : List W} (h : xs.length ≠ ys.length) : weqs xs ys = false := by
  rw [← weqs_all]
  simp [h]
theorem eqOks_get : ∀ {n : Nat} {xs ys : List W} {j : Nat}, eqOks n xs ys = true → j < xs.length → j < ys.length → eqOk n (xs.getD j .non) (ys.getD j .non) = true
  | n, [], _, _, _, h, _ => by simp at h
  | n, _ :: _, [], _, _, _, h => by simp at h
  | n, x :: xs, y :: ys, 0, h, _, _ => by
    simp only [eqOks, Bool.and_eq_true] at h
    simpa using h.1
  | n, x :: xs, y :: ys, j + 1, h, h1, h2 => by
    simp only [eqOks, Bool.and_eq_true] at h
    have := eqOks_get (j := j) h.2 (by simpa using h1) (by simpa using h2)
    simpa using this
theorem Reps.getD {ws : List W} {vs : List V} {us : List Value} (r : Reps C ρ H ws vs) (q : Vals vs us) {j : Nat} (h : j < us.length) : ∃ v, Rep C ρ H (ws.getD j .non) v ∧ RelV v us[j] := by
  have h1 : j < vs.length := by rw [q.length]; exact h
  have h2 : j < ws.length := by rw [r.length]; exact h1
  obtain ⟨v, e1, r1⟩ := r.get (i := j) (w := ws[j]) (List.getElem?_eq_getElem h2)
  obtain ⟨u, e2, r2⟩ := q.get e1
  refine ⟨v, ?_, ?_⟩
  · rw [List.getD_eq_getElem?_getD, List.getElem?_eq_getElem h2]; exact r1
  · rw [List.getElem?_eq_getElem h] at e2
    cases e2; exact r2
theorem sc_flat {a : W} {v : V} (h : isSc a = true) (r : Vw C ρ H a v) : flatV v = true := by
  cases a <;> simp only [isSc, Bool.false_eq_true] at h <;> simp only [Vw, Rep] at r
  · subst r; rfl
  · subst r; rfl
  · subst r; rfl
  · obtain ⟨r, _⟩ := r; subst r; rfl
theorem eqV_rfl : ∀ {v : V}, flatV v = true → eqV v v = true
  | .non, _ => rfl
  | .bl b, _ => by simp [eqV]
  | .int i, _ => by simp [eqV]
  | .str x, _ => by simp [eqV]
theorem strOf_beq (x y : List Nat) : (strOf x == strOf y) = (x == y) := by
  rw [Bool.eq_iff_iff]
  simp [strOf]
theorem sc_eq {a b : W} {x y : V} (h : isSc a = true) (h' : isSc b = true) (ra : Vw C ρ H a x) (rb : Vw C ρ H b y) : weq a b = eqV x y := by
  cases a <;> simp only [isSc, Bool.false_eq_true] at h <;> cases b <;> simp only [isSc, Bool.false_eq_true] at h' <;> simp only [Vw, Rep] at ra rb
  all_goals first
    | (subst ra; subst rb; rfl)
    | (obtain ⟨ra, _⟩ := ra; subst ra; subst rb; rfl)
    | (obtain ⟨rb, _⟩ := rb; subst ra; subst rb; rfl)
    | (obtain ⟨ra, _⟩ := ra; obtain ⟨rb, _⟩ := rb; subst ra; subst rb; simp only [weq, eqV, strOf_beq])
theorem sq_ref {a : W} {v : V} (h : isSq a = true) (r : Vw C ρ H a v) : ∃ p, v = .ref p := by
  cases a <;> simp only [isSq, Bool.false_eq_true] at h
  · simp only [Vw, Rep] at r; obtain ⟨p, _, e, _⟩ := r; exact ⟨p, e⟩
  · simp only [Vw] at r; obtain ⟨p, _, e, _⟩ := r; exact ⟨p, e⟩
theorem sc_sq {a b : W} (h : isSc a = true) (h' : isSq b = true) : weq a b = false ∧ weq b a = false := by
  cases a <;> simp only [isSc, Bool.false_eq_true] at h <;> cases b <;> simp only [isSq, Bool.false_eq_true] at h' <;> simp [weq]
theorem sc_or_sq {n : Nat} {a b : W} (h : eqOk n a b = true) : (isSc a = true ∨ isSq a = true) ∧ (isSc b = true ∨ isSq b = true) := by
  cases n <;> cases a <;> cases b <;> simp [eqOk, isSc, isSq] at h ⊢
/-- two that stand at one address -/
theorem weq_same (hT : ∀ p xs ys, RT C ρ H p xs → RT C ρ H p ys → xs = ys) (hL : ∀ p xs ys, RT C ρ H p xs → H p = some (.lst ys) → False) :
    ∀ (n : Nat) (a b : W) (v : V), Vw C ρ H a v → Vw C ρ H b v → eqOk n a b = true → weq a b = true := by
  intro n
  have flat : ∀ (a b : W) (v : V), isSc a = true → isSc b = true → Vw C ρ H a v → Vw C ρ H b v → weq a b = true := fun a b v h1 h2 ra rb => by
    rw [sc_eq h1 h2 ra rb]
    exact eqV_rfl (sc_flat h1 ra)
  have mix : ∀ (a b : W) (v : V), isSc a = true → isSq b = true → Vw C ρ H a v → Vw C ρ H b v → False := fun a b v h1 h2 ra rb => by
    obtain ⟨p, rfl⟩ := sq_ref h2 rb
    have := sc_flat h1 ra
    simp [flatV] at this
  induction n with
  | zero =>
    intro a b v ra rb h
    simp only [eqOk, Bool.and_eq_true, Bool.or_eq_true] at h
    rcases h with ⟨h1, h2 | h2⟩ | ⟨h1, h2⟩
    · exact flat a b v h1 h2 ra rb
    · exact (mix a b v h1 h2 ra rb).elim
    · exact (mix b a v h2 h1 rb ra).elim
  | succ n ih =>
    intro a b v ra rb h
    have rows : ∀ (xs ys : List W) (vs : List V), Reps C ρ H xs vs → Reps C ρ H ys vs → eqOks n xs ys = true → weqs xs ys = true := by
      intro xs
      induction xs with
      | nil =>
        intro ys vs r1 r2 _
        have := r1.nil'; subst this
        have := r2.length
        cases ys with
        | nil => rfl
        | cons _ _ => simp at this
      | cons x xs ih2 =>
        intro ys vs r1 r2 hq
        obtain ⟨v, us, rfl, p1, p2⟩ := r1.cons'
        cases ys with
        | nil => have := r2.nil'; cases this
        | cons y ys =>
          obtain ⟨v', us', e, q1, q2⟩ := r2.cons'
          cases e
          simp only [eqOks, Bool.and_eq_true] at hq
          simp only [weqs, Bool.and_eq_true]
          exact ⟨ih x y v p1.vw q1.vw hq.1, ih2 ys us p2 q2 hq.2⟩
    obtain ⟨ka, kb⟩ := sc_or_sq h
    rcases ka with ka | ka
    · rcases kb with kb | kb
      · exact flat a b v ka kb ra rb
      · exact (mix a b v ka kb ra rb).elim
    · rcases kb with kb | kb
      · exact (mix b a v kb ka rb ra).elim
      · cases a <;> simp only [isSq, Bool.false_eq_true] at ka <;> cases b <;> simp only [isSq, Bool.false_eq_true] at kb
        · simp only [Vw, Rep] at ra rb
          obtain ⟨p, vs, rfl, r1, q1⟩ := ra
          obtain ⟨p', vs', e, r2, q2⟩ := rb
          cases e
          have := hT _ _ _ r1 r2
          subst this
          simp only [eqOk] at h
          simp only [weq]
          exact rows _ _ _ q1 q2 h
        · simp only [Vw, Rep] at ra rb
          obtain ⟨p, vs, rfl, r1, q1⟩ := ra
          obtain ⟨p', vs', e, r2, q2⟩ := rb
          cases e
          exact (hL _ _ _ r1 r2).elim
        · simp only [Vw, Rep] at ra rb
          obtain ⟨p, vs, rfl, r1, q1⟩ := ra
          obtain ⟨p', vs', e, r2, q2⟩ := rb
          cases e
          exact (hL _ _ _ r2 r1).elim
        · simp only [Vw] at ra rb
          obtain ⟨p, vs, rfl, r1, q1⟩ := ra
          obtain ⟨p', vs', e, r2, q2⟩ := rb
          cases e
          rw [r1] at r2; cases r2
          simp only [eqOk, Bool.or_eq_true] at h
          simp only [weq]
          rcases h with h | h
          · have := q1.length
            have := q2.length
            simp at h
            omega
          · exact rows _ _ _ q1 q2 h
end
section
variable {X : Cx} {C : Cn} {ρ : List Addr} {H : Hp} {pins : List (Addr × Obj)} {σ : St} {st : Shared}
theorem Inv.rt_inj (I : Inv X pins σ H st) (hX : X.K = C.K) : ∀ p xs ys, RT C ρ H p xs → RT C ρ H p ys → xs = ys := fun p xs ys a b => I.tuple_inj (hX ▸ a.sq) (hX ▸ b.sq)
theorem Inv.rt_lst (I : Inv X pins σ H st) (hX : X.K = C.K) : ∀ p xs ys, RT C ρ H p xs → H p = some (.lst ys) → False := fun p xs ys a b => by
  obtain ⟨its, r, ⟨o, e, c, _⟩, _⟩ := I.tuple (hX ▸ a.sq)
  obtain ⟨its', r', ⟨o', n', e', c', _, _⟩, _⟩ := I.list (X := X) (SqL.of b)
  rw [e] at e'; cases e'
  rw [c] at c'
  simp at c'
/-- how it stands in the model's heap -/
theorem Vw.lst (I : Inv X pins σ H st) {xs : List W} {v : V} {u : Value} (r : Vw C ρ H (.lst xs) v) (rv : RelV v u) : ∃ p its vs, u = .ref p ∧ st.heap.IsList p (List.toArray its) ∧ Reps C ρ H xs vs ∧ Vals vs its := by
  simp only [Vw] at r
  obtain ⟨p, vs, rfl, e, q⟩ := r
  obtain ⟨its, rr, pl, _⟩ := I.list (X := X) (SqL.of e)
  exact ⟨p, its, vs, rv, pl.isList, q, rr⟩
theorem Vw.tup (I : Inv X pins σ H st) (hX : X.K = C.K) {xs : List W} {v : V} {u : Value} (r : Vw C ρ H (.tup xs) v) (rv : RelV v u) : ∃ p its vs, u = .ref p ∧ st.heap.IsTuple p (List.toArray its) ∧ Reps C ρ H xs vs ∧ Vals vs its := by
  simp only [Vw, Rep] at r
  obtain ⟨p, vs, rfl, e, q⟩ := r
  obtain ⟨its, rr, pl, _⟩ := I.tuple (X := X) (hX ▸ e.sq)
  exact ⟨p, its, vs, rv, pl, q, rr⟩
theorem items_e {n : Nat} {xs ys : List W} {vs vs' : List V} {its its' : List Value} {A : Around} (q1 : Reps C ρ H xs vs) (r1 : Vals vs its) (q2 : Reps C ρ H ys vs') (r2 : Vals vs' its') (h : eqOks n xs ys = true)
    (ih : ∀ (a b : W) (x y : V) (v u : Value), Vw C ρ H a x → Vw C ρ H b y → RelV x v → RelV y u → eqOk n a b = true → SeqAt.EqAt A.in1 st v u (weq a b)) :
    ∀ j (h1 : j < its.toArray.size) (h2 : j < its'.toArray.size), SeqAt.EqAt A.in1 st its.toArray[j] its'.toArray[j] (pairE xs ys j) := fun j h1 h2 => by
  have h1' : j < its.length := by simpa using h1
  have h2' : j < its'.length := by simpa using h2
  obtain ⟨v, a1, a2⟩ := q1.getD r1 h1'
  obtain ⟨v', b1, b2⟩ := q2.getD r2 h2'
  have := ih _ _ _ _ _ _ a1.vw b1.vw a2 b2 (eqOks_get h (by rw [q1.length, r1.length]; exact h1') (by rw [q2.length, r2.length]; exact h2'))
  simpa [pairE] using this
theorem sz_of {xs : List W} {vs : List V} {its : List Value} (q : Reps C ρ H xs vs) (r : Vals vs its) : its.toArray.size = xs.length := by
  rw [List.size_toArray, ← r.length, ← q.length]
theorem eq_sc (hX : X.K = C.K) (I : Inv X pins σ H st) {A : Around} (hu : A.units < cLine) {a b : W} {x y : V} {v u : Value} (ra : Vw C ρ H a x) (rb : Vw C ρ H b y) (rv : RelV x v) (ru : RelV y u) (ka : isSc a = true) (kb : isSq b = true) :
    SeqAt.EqAt A st v u (weq a b) ∧ SeqAt.RcAt A st v u (weq a b) ∧ SeqAt.RcNeAt A st v u (!weq a b) := by
  rw [(sc_sq ka kb).1]
  cases b <;> simp only [isSq, Bool.false_eq_true] at kb
  · obtain ⟨p, its, vs, rfl, hl, _, _⟩ := Vw.tup I hX rb ru
    cases a <;> simp only [isSc, Bool.false_eq_true] at ka <;> simp only [Vw, Rep] at ra
    · subst ra; cases rv; exact ⟨SeqAt.EqAt.none_tuple hl hu, SeqAt.RcAt.none_tuple hl hu, SeqAt.RcNeAt.none_tuple hl hu⟩
    · subst ra; cases rv; exact ⟨SeqAt.EqAt.bool_tuple _ hl hu, SeqAt.RcAt.bool_tuple _ hl hu, SeqAt.RcNeAt.bool_tuple _ hl hu⟩
    · subst ra; obtain ⟨t, rfl⟩ := rv; exact ⟨SeqAt.EqAt.int_tuple _ _ hl hu, SeqAt.RcAt.int_tuple _ _ hl hu, SeqAt.RcNeAt.int_tuple _ _ hl hu⟩
    · obtain ⟨ra, _⟩ := ra; subst ra; obtain ⟨t, rfl⟩ := rv; exact ⟨SeqAt.EqAt.str_tuple _ _ hl hu, SeqAt.RcAt.str_tuple _ _ hl hu, SeqAt.RcNeAt.str_tuple _ _ hl hu⟩
  · obtain ⟨p, its, vs, rfl, hl, _, _⟩ := Vw.lst I rb ru
    cases a <;> simp only [isSc, Bool.false_eq_true] at ka <;> simp only [Vw, Rep] at ra
    · subst ra; cases rv; exact ⟨SeqAt.EqAt.none_list hl hu, SeqAt.RcAt.none_list hl hu, SeqAt.RcNeAt.none_list hl hu⟩
    · subst ra; cases rv; exact ⟨SeqAt.EqAt.bool_list _ hl hu, SeqAt.RcAt.bool_list _ hl hu, SeqAt.RcNeAt.bool_list _ hl hu⟩
    · subst ra; obtain ⟨t, rfl⟩ := rv; exact ⟨SeqAt.EqAt.int_list _ _ hl hu, SeqAt.RcAt.int_list _ _ hl hu, SeqAt.RcNeAt.int_list _ _ hl hu⟩
    · obtain ⟨ra, _⟩ := ra; subst ra; obtain ⟨t, rfl⟩ := rv; exact ⟨SeqAt.EqAt.str_list _ _ hl hu, SeqAt.RcAt.str_list _ _ hl hu, SeqAt.RcNeAt.str_list _ _ hl hu⟩
theorem eq_sq (hX : X.K = C.K) (I : Inv X pins σ H st) {A : Around} (hu : A.units < cLine) {a b : W} {x y : V} {v u : Value} (ra : Vw C ρ H a x) (rb : Vw C ρ H b y) (rv : RelV x v) (ru : RelV y u) (ka : isSq a = true) (kb : isSc b = true) :
    SeqAt.EqAt A st v u (weq a b) ∧ SeqAt.RcAt A st v u (weq a b) ∧ SeqAt.RcNeAt A st v u (!weq a b) := by
  rw [(sc_sq kb ka).2]
  cases a <;> simp only [isSq, Bool.false_eq_true] at ka
  · obtain ⟨p, its, vs, rfl, hl, _, _⟩ := Vw.tup I hX ra rv
    cases b <;> simp only [isSc, Bool.false_eq_true] at kb <;> simp only [Vw, Rep] at rb
    · subst rb; cases ru; exact ⟨SeqAt.EqAt.tuple_none hl hu, SeqAt.RcAt.tuple_none hl hu, SeqAt.RcNeAt.tuple_none hl hu⟩
    · subst rb; cases ru; exact ⟨SeqAt.EqAt.tuple_bool _ hl hu, SeqAt.RcAt.tuple_bool _ hl hu, SeqAt.RcNeAt.tuple_bool _ hl hu⟩
    · subst rb; obtain ⟨t, rfl⟩ := ru; exact ⟨SeqAt.EqAt.tuple_int _ _ hl hu, SeqAt.RcAt.tuple_int _ _ hl hu, SeqAt.RcNeAt.tuple_int _ _ hl hu⟩
    · obtain ⟨rb, _⟩ := rb; subst rb; obtain ⟨t, rfl⟩ := ru; exact ⟨SeqAt.EqAt.tuple_str _ _ hl hu, SeqAt.RcAt.tuple_str _ _ hl hu, SeqAt.RcNeAt.tuple_str _ _ hl hu⟩
  · obtain ⟨p, its, vs, rfl, hl, _, _⟩ := Vw.lst I ra rv
    cases b <;> simp only [isSc, Bool.false_eq_true] at kb <;> simp only [Vw, Rep] at rb
    · subst rb; cases ru; exact ⟨SeqAt.EqAt.list_none hl hu, SeqAt.RcAt.list_none hl hu, SeqAt.RcNeAt.list_none hl hu⟩
    · subst rb; cases ru; exact ⟨SeqAt.EqAt.list_bool _ hl hu, SeqAt.RcAt.list_bool _ hl hu, SeqAt.RcNeAt.list_bool _ hl hu⟩
    · subst rb; obtain ⟨t, rfl⟩ := ru; exact ⟨SeqAt.EqAt.list_int _ _ hl hu, SeqAt.RcAt.list_int _ _ hl hu, SeqAt.RcNeAt.list_int _ _ hl hu⟩
    · obtain ⟨rb, _⟩ := rb; subst rb; obtain ⟨t, rfl⟩ := ru; exact ⟨SeqAt.EqAt.list_str _ _ hl hu, SeqAt.RcAt.list_str _ _ hl hu, SeqAt.RcNeAt.list_str _ _ hl hu⟩
theorem RcAt_flat {A : Around} {y x : V} {u v : Value} (ry : RelV y u) (rx : RelV x v) (fy : flatV y = true) (fx : flatV x = true) : SeqAt.RcAt A st u v (eqV y x) ∧ SeqAt.RcNeAt A st u v (!eqV y x) := by
  cases y <;> simp only [flatV, Bool.false_eq_true] at fy <;> cases x <;> simp only [flatV, Bool.false_eq_true] at fx
  · cases ry; cases rx; exact ⟨SeqAt.RcAt.none_none, SeqAt.RcNeAt.none_none⟩
  · cases ry; cases rx; exact ⟨SeqAt.RcAt.none_bool _, SeqAt.RcNeAt.none_bool _⟩
  · cases ry; obtain ⟨t, rfl⟩ := rx; exact ⟨SeqAt.RcAt.none_int _ _, SeqAt.RcNeAt.none_int _ _⟩
  · cases ry; obtain ⟨t, rfl⟩ := rx; exact ⟨SeqAt.RcAt.none_str _ _, SeqAt.RcNeAt.none_str _ _⟩
  · cases ry; cases rx; exact ⟨SeqAt.RcAt.bool_none _, SeqAt.RcNeAt.bool_none _⟩
  · cases ry; cases rx; exact ⟨SeqAt.RcAt.bool_bool _ _, SeqAt.RcNeAt.bool_bool _ _⟩
  · cases ry; obtain ⟨t, rfl⟩ := rx; exact ⟨SeqAt.RcAt.bool_int _ _ _, SeqAt.RcNeAt.bool_int _ _ _⟩
  · cases ry; obtain ⟨t, rfl⟩ := rx; exact ⟨SeqAt.RcAt.bool_str _ _ _, SeqAt.RcNeAt.bool_str _ _ _⟩
  · obtain ⟨t', rfl⟩ := ry; cases rx; exact ⟨SeqAt.RcAt.int_none _ _, SeqAt.RcNeAt.int_none _ _⟩
  · obtain ⟨t', rfl⟩ := ry; cases rx; exact ⟨SeqAt.RcAt.int_bool _ _ _, SeqAt.RcNeAt.int_bool _ _ _⟩
  · obtain ⟨t', rfl⟩ := ry; obtain ⟨t, rfl⟩ := rx; exact ⟨SeqAt.RcAt.int_int _ _ _ _, SeqAt.RcNeAt.int_int _ _ _ _⟩
  · obtain ⟨t', rfl⟩ := ry; obtain ⟨t, rfl⟩ := rx; exact ⟨SeqAt.RcAt.int_str _ _ _ _, SeqAt.RcNeAt.int_str _ _ _ _⟩
  · obtain ⟨t', rfl⟩ := ry; cases rx; exact ⟨SeqAt.RcAt.str_none _ _, SeqAt.RcNeAt.str_none _ _⟩
  · obtain ⟨t', rfl⟩ := ry; cases rx; exact ⟨SeqAt.RcAt.str_bool _ _ _, SeqAt.RcNeAt.str_bool _ _ _⟩
  · obtain ⟨t', rfl⟩ := ry; obtain ⟨t, rfl⟩ := rx; exact ⟨SeqAt.RcAt.str_int _ _ _ _, SeqAt.RcNeAt.str_int _ _ _ _⟩
  · obtain ⟨t', rfl⟩ := ry; obtain ⟨t, rfl⟩ := rx; exact ⟨SeqAt.RcAt.str_str _ _ _ _, SeqAt.RcNeAt.str_str _ _ _ _⟩
/-- EQUALITY: the model's answers are weq's -/
theorem eq_at (hX : X.K = C.K) (I : Inv X pins σ H st) : ∀ (n : Nat) (A : Around), A.units + n < cLine → ∀ (a b : W) (x y : V) (v u : Value), Vw C ρ H a x → Vw C ρ H b y → RelV x v → RelV y u → eqOk n a b = true →
    SeqAt.EqAt A st v u (weq a b) ∧ SeqAt.RcAt A st v u (weq a b) ∧ SeqAt.RcNeAt A st v u (!weq a b) := by
  intro n
  induction n with
  | zero =>
    intro A hu a b x y v u ra rb rv ru h
    simp only [eqOk, Bool.and_eq_true, Bool.or_eq_true] at h
    rcases h with ⟨h1, h2 | h2⟩ | ⟨h1, h2⟩
    · rw [sc_eq h1 h2 ra rb]
      exact ⟨eqAt_V rv ru (sc_flat h1 ra) (sc_flat h2 rb), RcAt_flat rv ru (sc_flat h1 ra) (sc_flat h2 rb)⟩
    · exact eq_sc hX I (by omega) ra rb rv ru h1 h2
    · exact eq_sq hX I (by omega) ra rb rv ru h1 h2
  | succ n ih =>
    intro A hu a b x y v u ra rb rv ru h
    have hu0 : A.units < cLine := by omega
    have hin : A.in1.units + n < cLine := by show A.units + 1 + n < cLine; omega
    obtain ⟨ka, kb⟩ := sc_or_sq h
    rcases ka with ka | ka
    · rcases kb with kb | kb
      · rw [sc_eq ka kb ra rb]
        exact ⟨eqAt_V rv ru (sc_flat ka ra) (sc_flat kb rb), RcAt_flat rv ru (sc_flat ka ra) (sc_flat kb rb)⟩
      · exact eq_sc hX I hu0 ra rb rv ru ka kb
    · rcases kb with kb | kb
      · exact eq_sq hX I hu0 ra rb rv ru ka kb
      · have same : ∀ p, v = .ref p → u = .ref p → weq a b = true := fun p e1 e2 => by
          have : x = y := by
            subst e1; subst e2
            obtain ⟨px, rfl⟩ := sq_ref ka ra
            obtain ⟨py, rfl⟩ := sq_ref kb rb
            cases rv; cases ru; rfl
          subst this
          exact weq_same (Inv.rt_inj I hX) (Inv.rt_lst I hX) (n + 1) a b x ra rb h
        have wrap : ∀ p q k, v = .ref p → u = .ref q → weq a b = k → SeqAt.RcAt A st (.ref p) (.ref q) k → SeqAt.EqAt A st (.ref p) (.ref q) k := fun p q k e1 e2 e3 hk => by
          by_cases e : p = q
          · subst e
            rw [same p e1 e2] at e3
            subst e3
            exact SeqAt.EqAt.same _
          · exact SeqAt.EqAt.of_refs e hk
        cases a <;> simp only [isSq, Bool.false_eq_true] at ka <;> cases b <;> simp only [isSq, Bool.false_eq_true] at kb
        · rename_i xs ys
          obtain ⟨p, its, vs, rfl, hl, q1, r1⟩ := Vw.tup I hX ra rv
          obtain ⟨p2, its2, vs2, rfl, hl2, q2, r2⟩ := Vw.tup I hX rb ru
          simp only [eqOk] at h
          have hit := items_e (st := st) (A := A) q1 r1 q2 r2 h fun a b x y v u c1 c2 c3 c4 c5 => (ih A.in1 hin a b x y v u c1 c2 c3 c4 c5).1
          have ew : ((List.range (min its.toArray.size its2.toArray.size)).all (pairE xs ys) && its.toArray.size == its2.toArray.size) = weq (.tup xs) (.tup ys) := by
            rw [sz_of q1 r1, sz_of q2 r2, weqs_all]; simp only [weq]
          have k1 := SeqAt.RcAt.tuples hl hl2 hu0 hit
          have k2 := SeqAt.RcNeAt.tuples hl hl2 hu0 hit
          rw [ew] at k1 k2
          exact ⟨wrap _ _ _ rfl rfl rfl k1, k1, k2⟩
        · obtain ⟨p, its, vs, rfl, hl, q1, r1⟩ := Vw.tup I hX ra rv
          obtain ⟨p2, its2, vs2, rfl, hl2, q2, r2⟩ := Vw.lst I rb ru
          simp only [weq]
          exact ⟨SeqAt.EqAt.tuple_list hl hl2 hu0, SeqAt.RcAt.tuple_list hl hl2 hu0, SeqAt.RcNeAt.tuple_list hl hl2 hu0⟩
        · obtain ⟨p, its, vs, rfl, hl, q1, r1⟩ := Vw.lst I ra rv
          obtain ⟨p2, its2, vs2, rfl, hl2, q2, r2⟩ := Vw.tup I hX rb ru
          simp only [weq]
          exact ⟨SeqAt.EqAt.list_tuple hl hl2 hu0, SeqAt.RcAt.list_tuple hl hl2 hu0, SeqAt.RcNeAt.list_tuple hl hl2 hu0⟩
        · rename_i xs ys
          obtain ⟨p, its, vs, rfl, hl, q1, r1⟩ := Vw.lst I ra rv
          obtain ⟨p2, its2, vs2, rfl, hl2, q2, r2⟩ := Vw.lst I rb ru
          simp only [eqOk, Bool.or_eq_true] at h
          by_cases hn : xs.length = ys.length
          · have h' : eqOks n xs ys = true := by
              rcases h with h | h
              · simp [hn] at h
              · exact h
            have hit := items_e (st := st) (A := A) q1 r1 q2 r2 h' fun a b x y v u c1 c2 c3 c4 c5 => (ih A.in1 hin a b x y v u c1 c2 c3 c4 c5).1
            have hsz : its.toArray.size = its2.toArray.size := by rw [sz_of q1 r1, sz_of q2 r2]; exact hn
            have ew : (List.range its.toArray.size).all (pairE xs ys) = weq (.lst xs) (.lst ys) := by
              have := weqs_all xs ys
              rw [← hn, Nat.min_self] at this
              rw [sz_of q1 r1]; simp only [weq]
              rw [← this]; simp
            have k1 := SeqAt.RcAt.lists hl hl2 hsz hu0 hit
            have k2 := SeqAt.RcNeAt.lists hl hl2 hsz hu0 hit
            rw [ew] at k1 k2
            exact ⟨wrap _ _ _ rfl rfl rfl k1, k1, k2⟩
          · have hsz : (its.toArray.size != its2.toArray.size) = true := by rw [sz_of q1 r1, sz_of q2 r2]; simpa using hn
            have ew : weq (.lst xs) (.lst ys) = false := by simp only [weq]; exact weqs_len hn
            have k1 := SeqAt.RcAt.lists_lengths hl hl2 hsz hu0
            have k2 := SeqAt.RcNeAt.lists_lengths hl hl2 hsz hu0
            rw [ew]
            exact ⟨wrap _ _ _ rfl rfl ew k1, k1, k2⟩

end
section
variable {X : Cx} {C : Cn}
def copO : Cop → CmpOp
  | .eq => .Eq | .ne => .NotEq | .lt => .Lt | .le => .LtE | .gt => .Gt | .ge => .GtE | .is => .Is | .isnot => .IsNot | .isin => .In | .notin => .NotIn
theorem slt_lt : ∀ (x y : List Nat), slt x y = decide (x < y)
  | [], [] => by simp [slt]
  | _ :: _, [] => by simp [slt]
  | [], _ :: _ => by simp [slt]
  | a :: x, b :: y => by
    have ih := slt_lt x y
    simp only [slt]
    split
    · rename_i h
      simp [List.cons_lt_cons_iff, h]
    · split
      · rename_i h1 h2
        have : ¬ a = b := by omega
        simp [List.cons_lt_cons_iff, h1, this]
      · rename_i h1 h2
        have : a = b := by omega
        subst this
        simp [List.cons_lt_cons_iff, ih]
theorem Reps.at_ {ρ : List Addr} {H : Hp} : ∀ {ws : List W} {vs : List V} {us : List Value} {j : Nat} {u : Value}, Reps C ρ H ws vs → Vals vs us → us[j]? = some u → ∃ w v, ws[j]? = some w ∧ Rep C ρ H w v ∧ RelV v u
  | ws, vs, us, j, u, r, q, e => by
    have hj := (List.getElem?_eq_some_iff.mp e).1
    obtain ⟨v, a1, a2⟩ := r.getD q hj
    have hw : j < ws.length := by rw [r.length, q.length]; exact hj
    refine ⟨ws[j], v, List.getElem?_eq_getElem hw, ?_, ?_⟩
    · rw [List.getD_eq_getElem?_getD, List.getElem?_eq_getElem hw] at a1; exact a1
    · rw [List.getElem?_eq_getElem hj] at e; cases e; exact a2
open Classical in
theorem vw_any {ρ : List Addr} {H : Hp} {pins : List (Addr × Obj)} {σ : St} {st : Shared} (hX : X.K = C.K) (I : L2.Inv X pins σ H st) {A : Around} (hu : A.units + 63 < cLine) {a : W} {x : V} {v : Value} (ra : Vw C ρ H a x) (rv : RelV x v)
    {ys : List W} {vs : List V} {us : List Value} (r : Reps C ρ H ys vs) (q : Vals vs us) (h : memOk a ys = true) : ∃ e : Value → Bool, (∀ u ∈ us, SeqAt.EqAt A st u v (e u)) ∧ us.any e = ys.any fun y => weq y a := by
  have all : ∀ j y, ys[j]? = some y → eqOk 63 y a = true := fun j y e => by
    simp only [memOk, List.all_eq_true] at h
    exact h y (List.mem_of_getElem? e)
  have ans : ∀ j u y, us[j]? = some u → ys[j]? = some y → SeqAt.EqAt A st u v (weq y a) := fun j u y e1 e2 => by
    obtain ⟨w', v', a1, a2, a3⟩ := r.at_ q e1
    rw [e2] at a1; cases a1
    exact (eq_at hX I 63 A hu y a v' x u v a2.vw ra a3 rv (all j y e2)).1
  refine ⟨fun (u : Value) => decide (∃ (j : Nat) (y : W), us[j]? = some u ∧ ys[j]? = some y ∧ weq y a = true), fun u hu' => ?_, ?_⟩
  · obtain ⟨j, hj⟩ := List.mem_iff_getElem?.mp hu'
    by_cases hc : ∃ (j : Nat) (y : W), us[j]? = some u ∧ ys[j]? = some y ∧ weq y a = true
    · show SeqAt.EqAt A st u v (decide _)
      rw [decide_eq_true hc]
      obtain ⟨j', y, e1, e2, e3⟩ := hc
      rw [← e3]
      exact ans j' u y e1 e2
    · show SeqAt.EqAt A st u v (decide _)
      rw [decide_eq_false hc]
      obtain ⟨w', v', a1, _, _⟩ := r.at_ q hj
      have : weq w' a = false := by
        cases hw : weq w' a with
        | false => rfl
        | true => exact (hc ⟨j, w', hj, a1, hw⟩).elim
      rw [← this]
      exact ans j u w' hj a1
  · rw [Bool.eq_iff_iff, List.any_eq_true, List.any_eq_true]
    constructor
    · rintro ⟨u, _, hu'⟩
      obtain ⟨j, y, e1, e2, e3⟩ := of_decide_eq_true hu'
      exact ⟨y, List.mem_of_getElem? e2, e3⟩
    · rintro ⟨y, hy, e3⟩
      obtain ⟨j, e2⟩ := List.mem_iff_getElem?.mp hy
      have hj := (List.getElem?_eq_some_iff.mp e2).1
      have hj' : j < us.length := by rw [← q.length, ← r.length]; exact hj
      exact ⟨us[j], List.getElem_mem hj', decide_eq_true ⟨j, y, List.getElem?_eq_getElem hj', e2, e3⟩⟩
theorem dec_any {p : Prop} (i j : Decidable p) : @decide p i = @decide p j := by
  cases i <;> cases j <;> first | rfl | contradiction
theorem bl_eq {Q : VK} {H : Hp} {i j : Bool} (e : i = j) (q : Q (.bl i) H) : Q (.bl j) H := e ▸ q
/-- two values' comparison -/
def rCmp (C : Cn) (g : W → W → ST → Option Bool) : R2 := fun x y H Q => ∃ ρ s a b k, SR C ρ H s ∧ Rep C ρ H a x ∧ Rep C ρ H b y ∧ g a b s = some k ∧ Q (.bl k) H
theorem op_mem (hX : X.K = C.K) (hu : X.A.units + 64 < cLine) {s : ST} {ρ : List Addr} {H : Hp} {pins : List (Addr × Obj)} {σ : St} {st : Shared} (I : L2.Inv X pins σ H st) (S : SR C ρ H s) {a b : W} {x y : V} {v u : Value} (ra : Rep C ρ H a x) (rb : Rep C ρ H b y) (rx : RelV x v) (ry : RelV y u)
    {ys : List W} (h1 : seqI s b = some ys) (h2 : memOk a ys = true) {Q : VK} :
    (Q (.bl (ys.any fun y => weq y a)) H → wpAny (model X.prog X.w) X.A (compareOp .In v u) (EP X pins σ Q) X.xe st) ∧ (Q (.bl (!ys.any fun y => weq y a)) H → wpAny (model X.prog X.w) X.A (compareOp .NotIn v u) (EP X pins σ Q) X.xe st) := by
  obtain ⟨p, vs, rfl, hs, r⟩ := seqI_rep S rb h1
  cases ry
  have hu' : X.A.in1.units + 63 < cLine := by show X.A.units + 1 + 63 < cLine; omega
  rw [← hX] at hs
  rcases hs with hs | hs
  · obtain ⟨its, q, pl, _⟩ := I.list hs
    obtain ⟨e, e1, e2⟩ := vw_any hX I hu' ra.vw rx r q h2
    rw [← e2]
    have e3 : its.toArray.any e = its.any e := by simp
    exact ⟨fun k => SeqAt.in_listAt e pl.isList (fun w hw => e1 w (by simpa using hw)) ⟨.bl _, H, I, rfl, by rw [e3]; exact k⟩, fun k => SeqAt.notIn_listAt e pl.isList (fun w hw => e1 w (by simpa using hw)) ⟨.bl _, H, I, rfl, by rw [e3]; exact k⟩⟩
  · obtain ⟨its, q, pl, _⟩ := I.tuple hs
    obtain ⟨e, e1, e2⟩ := vw_any hX I hu' ra.vw rx r q h2
    rw [← e2]
    have e3 : its.toArray.any e = its.any e := by simp
    exact ⟨fun k => SeqAt.in_tupleAt e pl (fun w hw => e1 w (by simpa using hw)) ⟨.bl _, H, I, rfl, by rw [e3]; exact k⟩, fun k => SeqAt.notIn_tupleAt e pl (fun w hw => e1 w (by simpa using hw)) ⟨.bl _, H, I, rfl, by rw [e3]; exact k⟩⟩
theorem op_cmp (hX : X.K = C.K) (hu : X.A.units + 64 < cLine) (op : Cop) : OpR X (compareOp (copO op)) (rCmp C (cmpop op)) := by
  intro pins σt σ H x y v u Q I rx ry h
  obtain ⟨ρ, s, a, b, k, S, ra, rb, e, q⟩ := h
  have eqs : ∀ k', wEq s a b = some k' → (Q (.bl k') H → wpAny (model X.prog X.w) X.A (compareOp .Eq v u) (EP X pins σ Q) X.xe σt) ∧ (Q (.bl (!k')) H → wpAny (model X.prog X.w) X.A (compareOp .NotEq v u) (EP X pins σ Q) X.xe σt) := fun k' e => by
    unfold wEq at e
    split at e
    · rename_i a' b' h1 h2
      split at e
      · rename_i ho
        cases e
        obtain ⟨_, k1, k2⟩ := eq_at hX I 64 X.A hu a' b' x y v u (deref_vw S ra h1) (deref_vw S rb h2) rx ry ho
        exact ⟨fun q => k1 _ _ _ _ ⟨.bl _, H, I, rfl, q⟩, fun q => k2 _ _ _ _ ⟨.bl _, H, I, rfl, q⟩⟩
      · cases e
    · cases e
  cases op
  · exact (eqs k e).1 q
  · simp only [cmpop, Option.map_eq_some_iff] at e
    obtain ⟨k', e1, rfl⟩ := e
    exact (eqs k' e1).2 q
  · simp only [cmpop] at e
    split at e
    · cases e
      rw [ra.int] at rx; rw [rb.int] at ry
      exact op_lt pins σt σ H _ _ v u Q I rx ry ⟨_, _, rfl, rfl, q⟩
    · cases e
      rw [ra.str.1] at rx; rw [rb.str.1] at ry
      exact op_lt_str pins σt σ H _ _ v u Q I rx ry ⟨_, _, rfl, rfl, bl_eq (by rw [slt_lt]; exact dec_any _ _) q⟩
    · cases e
  · simp only [cmpop] at e
    split at e
    · cases e
      rw [ra.int] at rx; rw [rb.int] at ry
      exact op_le pins σt σ H _ _ v u Q I rx ry ⟨_, _, rfl, rfl, q⟩
    · cases e
      rw [ra.str.1] at rx; rw [rb.str.1] at ry
      exact op_le_str pins σt σ H _ _ v u Q I rx ry ⟨_, _, rfl, rfl, bl_eq (by rw [slt_lt]; exact congrArg (!·) (dec_any _ _)) q⟩
    · cases e
  · simp only [cmpop] at e
    split at e
    · cases e
      rw [ra.int] at rx; rw [rb.int] at ry
      exact op_gt pins σt σ H _ _ v u Q I rx ry ⟨_, _, rfl, rfl, q⟩
    · cases e
      rw [ra.str.1] at rx; rw [rb.str.1] at ry
      exact op_gt_str pins σt σ H _ _ v u Q I rx ry ⟨_, _, rfl, rfl, bl_eq (by rw [slt_lt]; exact dec_any _ _) q⟩
    · cases e
  · simp only [cmpop] at e
    split at e
    · cases e
      rw [ra.int] at rx; rw [rb.int] at ry
      exact op_ge pins σt σ H _ _ v u Q I rx ry ⟨_, _, rfl, rfl, q⟩
    · cases e
      rw [ra.str.1] at rx; rw [rb.str.1] at ry
      exact op_ge_str pins σt σ H _ _ v u Q I rx ry ⟨_, _, rfl, rfl, bl_eq (by rw [slt_lt]; exact congrArg (!·) (dec_any _ _)) q⟩
    · cases e
  · simp only [cmpop] at e
    split at e
    · rw [rb.non] at ry
      refine op_isN pins σt σ H x _ v u Q I rx ry ⟨rfl, ?_⟩
      cases e
      cases a <;> simp only [Rep] at ra
      all_goals first
        | (subst ra; exact q)
        | (obtain ⟨ra, _⟩ := ra; subst ra; exact q)
        | (obtain ⟨p, vs, ra, _⟩ := ra; subst ra; exact q)
        | (obtain ⟨p, vs, o, ra, _⟩ := ra; subst ra; exact q)
        | (obtain ⟨p, ra, _⟩ := ra; subst ra; exact q)
        | (obtain ⟨p, _, ra⟩ := ra; subst ra; exact q)
    · split at e
      · cases e
        rw [ra.bl] at rx; rw [rb.bl] at ry
        exact op_isBl pins σt σ H _ _ v u Q I rx ry ⟨_, _, rfl, rfl, by rw [← Bool.beq_eq_decide_eq]; exact q⟩
      · cases e
    · cases e
  · simp only [cmpop] at e
    split at e
    · rw [rb.non] at ry
      refine op_notN pins σt σ H x _ v u Q I rx ry ⟨rfl, ?_⟩
      cases e
      cases a <;> simp only [Rep] at ra
      all_goals first
        | (subst ra; exact q)
        | (obtain ⟨ra, _⟩ := ra; subst ra; exact q)
        | (obtain ⟨p, vs, ra, _⟩ := ra; subst ra; exact q)
        | (obtain ⟨p, vs, o, ra, _⟩ := ra; subst ra; exact q)
        | (obtain ⟨p, ra, _⟩ := ra; subst ra; exact q)
        | (obtain ⟨p, _, ra⟩ := ra; subst ra; exact q)
    · split at e
      · cases e
        rw [ra.bl] at rx; rw [rb.bl] at ry
        exact op_notBl pins σt σ H _ _ v u Q I rx ry ⟨_, _, rfl, rfl, by rw [← Bool.beq_eq_decide_eq]; exact q⟩
      · cases e
    · cases e
  · simp only [cmpop] at e
    split at e
    · cases e
      rw [ra.str.1] at rx; rw [rb.str.1] at ry
      exact op_in_sign pins σt σ H _ _ v u Q I rx ry ⟨_, _, rfl, rfl, bl_eq (dec_any _ _) q⟩
    · split at e
      · rename_i ys h1
        split at e
        · rename_i h2
          cases e
          exact (op_mem hX hu I S ra rb rx ry h1 h2).1 q
        · cases e
      · cases e
  · simp only [cmpop] at e
    split at e
    · cases e
      rw [ra.str.1] at rx; rw [rb.str.1] at ry
      exact op_notIn_sign pins σt σ H _ _ v u Q I rx ry ⟨_, _, rfl, rfl, bl_eq (congrArg (!·) (dec_any _ _)) q⟩
    · split at e
      · rename_i ys h1
        split at e
        · rename_i h2
          cases e
          exact (op_mem hX hu I S ra rb rx ry h1 h2).2 q
        · cases e
      · cases e
end
end G

set_option Elab.async false
set_option linter.all false
set_option autoImplicit false
set_option maxRecDepth 100000
set_option maxHeartbeats 4000000
/-! GM: max, min of data. -/
namespace GN
open PySem PySem.Spec PyProof.Rows L2 G PySem.W
section
variable {X : Cx} {C : Cn} {ρ : List Addr} {H : Hp}
mutual
theorem toD_inj : ∀ (a b : W) (d : PyData), toD a = some d → toD b = some d → a = b
  | .bl x, b, d, h1, h2 => by
    simp only [toD, Option.some.injEq] at h1; subst h1
    cases b <;> simp [toD] at h2
    simp [h2]
  | .int x, b, d, h1, h2 => by
    simp only [toD, Option.some.injEq] at h1; subst h1
    cases b <;> simp [toD] at h2
    simp [h2]
  | .str x, b, d, h1, h2 => by
    simp only [toD, Option.some.injEq] at h1; subst h1
    cases b <;> simp [toD] at h2
    simp [h2]
  | .tup xs, b, d, h1, h2 => by
    simp only [toD, Option.map_eq_some_iff] at h1
    obtain ⟨ds, e1, rfl⟩ := h1
    cases b <;> simp [toD] at h2
    rename_i ys
    rw [toDs_inj xs ys ds e1 h2]
  | .non, _, _, h, _ | .htup _, _, _, h, _ | .lst _, _, _, h, _ | .dct _ _, _, _, h, _ | .ref _, _, _, h, _ | .scr _, _, _, h, _ | .ty _, _, _, h, _ | .fn _, _, _, h, _ => by simp [toD] at h
theorem toDs_inj : ∀ (a b : List W) (ds : List PyData), toDs a = some ds → toDs b = some ds → a = b
  | [], b, ds, h1, h2 => by
    simp only [toDs, Option.some.injEq] at h1; subst h1
    cases b with
    | nil => rfl
    | cons y b =>
      simp only [toDs, Option.bind_eq_some_iff, Option.map_eq_some_iff] at h2
      obtain ⟨_, _, _, _, q⟩ := h2
      cases q
  | x :: a, b, ds, h1, h2 => by
    simp only [toDs, Option.bind_eq_some_iff, Option.map_eq_some_iff] at h1
    obtain ⟨d, e1, es, e2, rfl⟩ := h1
    cases b with
    | nil => simp [toDs] at h2
    | cons y b =>
      simp only [toDs, Option.bind_eq_some_iff, Option.map_eq_some_iff, List.cons.injEq] at h2
      obtain ⟨d', f1, es', f2, rfl, rfl⟩ := h2
      rw [toD_inj x y d' e1 f1, toDs_inj a b es' e2 f2]
end
mutual
theorem reads_of {pins : List (Addr × Obj)} {σ : L2.St} {s : Shared} (I : Inv X pins σ H s) (hX : X.K = C.K) : ∀ (w : W) (v : V) (u : Value) (d : PyData), Rep C ρ H w v → RelV v u → toD w = some d → ∃ as, Reads s.heap u d as
  | .bl x, v, u, d, r, q, h => by
    simp only [toD, Option.some.injEq] at h; subst h
    rw [r.bl] at q; cases q
    exact ⟨_, .bool x⟩
  | .int x, v, u, d, r, q, h => by
    simp only [toD, Option.some.injEq] at h; subst h
    rw [r.int] at q; obtain ⟨t, rfl⟩ := q
    exact ⟨_, .int x t⟩
  | .str x, v, u, d, r, q, h => by
    simp only [toD, Option.some.injEq] at h; subst h
    rw [r.str.1] at q; obtain ⟨t, rfl⟩ := q
    exact ⟨_, .str _ t⟩
  | .tup xs, v, u, d, r, q, h => by
    simp only [toD, Option.map_eq_some_iff] at h
    obtain ⟨ds, e1, rfl⟩ := h
    obtain ⟨p, vs, rfl, q1, r1⟩ := r.tup
    cases q
    obtain ⟨its, rv, ⟨o, e2, e3, n, e4⟩, _⟩ := I.tuple (hX ▸ q1.sq)
    obtain ⟨as, h2⟩ := readss_of I hX xs vs its ds r1 rv e1
    exact ⟨_, .tuple e2 e3 e4 (by simpa using h2)⟩
  | .non, _, _, _, _, _, h | .htup _, _, _, _, _, _, h | .lst _, _, _, _, _, _, h | .dct _ _, _, _, _, _, _, h | .ref _, _, _, _, _, _, h | .scr _, _, _, _, _, _, h | .ty _, _, _, _, _, _, h | .fn _, _, _, _, _, _, h => by simp [toD] at h
theorem readss_of {pins : List (Addr × Obj)} {σ : L2.St} {s : Shared} (I : Inv X pins σ H s) (hX : X.K = C.K) : ∀ (ws : List W) (vs : List V) (us : List Value) (ds : List PyData), Reps C ρ H ws vs → Vals vs us → toDs ws = some ds → ∃ as, ReadsAll s.heap us ds as
  | [], vs, us, ds, r, q, h => by
    simp only [toDs, Option.some.injEq] at h; subst h
    have := r.nil'; subst this
    cases q
    exact ⟨_, .nil⟩
  | x :: a, vs, us, ds, r, q, h => by
    simp only [toDs, Option.bind_eq_some_iff, Option.map_eq_some_iff] at h
    obtain ⟨d, e1, es, e2, rfl⟩ := h
    obtain ⟨v, vs', rfl, r1, r2⟩ := r.cons'
    cases q with
    | cons q1 q2 =>
      obtain ⟨as, h1⟩ := reads_of I hX x v _ d r1 q1 e1
      obtain ⟨bs, h2⟩ := readss_of I hX a vs' _ es r2 q2 e2
      exact ⟨_, .cons h1 h2⟩
end
theorem toDs_get : ∀ {ws : List W} {ds : List PyData} {i : Nat} {w : W}, toDs ws = some ds → ws[i]? = some w → ∃ d, ds[i]? = some d ∧ toD w = some d
  | [], _, _, _, _, e => by simp at e
  | x :: a, ds, i, w, h, e => by
    simp only [toDs, Option.bind_eq_some_iff, Option.map_eq_some_iff] at h
    obtain ⟨d, e1, es, e2, rfl⟩ := h
    cases i with
    | zero =>
      simp only [List.getElem?_cons_zero, Option.some.injEq] at e; subst e
      exact ⟨d, rfl, e1⟩
    | succ i =>
      obtain ⟨d2, f1, f2⟩ := toDs_get (i := i) e2 (by simpa using e)
      exact ⟨d2, by simpa using f1, f2⟩
theorem best_is (up : Bool) : ∀ (r : List W) (ds : List PyData) (x : W) (d : PyData), toD x = some d → toDs r = some ds → toD (bestW up x r) = some (ds.foldl (fun a y => if (if up then dataLt a y else dataLt y a) then y else a) d)
  | [], ds, x, d, h1, h2 => by
    simp only [toDs, Option.some.injEq] at h2; subst h2
    simpa [bestW] using h1
  | y :: r, ds, x, d, h1, h2 => by
    simp only [toDs, Option.bind_eq_some_iff, Option.map_eq_some_iff] at h2
    obtain ⟨e, e1, es, e2, rfl⟩ := h2
    simp only [bestW, List.foldl_cons, h1, e1]
    have := best_is up r es (if (if up then dataLt d e else dataLt e d) then y else x) (if (if up then dataLt d e else dataLt e d) then e else d) (by cases (if up then dataLt d e else dataLt e d) <;> simp [h1, e1]) e2
    simpa only [bestW] using this
/-- max (up) or min of data -/
theorem best_ok {b : Bool} {pins : List (Addr × Obj)} {σ : L2.St} {s : Shared} {st : ST} {Q : VK} {w a : W} {v : V} {u : Value} (hX : X.K = C.K) (hc : X.calm = true) (hu : X.A.units + 64 < cLine) (I : Inv X pins σ H s) (S : SR C ρ H st) (r : Rep C ρ H a v) (ru : RelV v u) (e : bDat st b [a] = some w) (k : OkP C ρ H st w Q) :
    wpAny (model X.prog X.w) X.A (call (.builtin (if b then "max" else "min")) [u]) (EP X pins σ Q) X.xe s := by
  unfold bDat at e
  simp only [Option.bind_eq_some_iff] at e
  obtain ⟨xs, e1, e2⟩ := e
  split at e2
  · cases e2
  rename_i x rest
  obtain ⟨ds, e3, e4⟩ := Option.bind_eq_some_iff.mp e2
  split at e4
  · rename_i hok
    cases e4
    obtain ⟨p, vs, rfl, hp, rr⟩ := seqL_rep S r e1
    cases ru
    obtain ⟨its, rv, pl, _⟩ := I.list (SqL.of hp)
    obtain ⟨as, hr⟩ := readss_of I hX _ vs its ds rr rv e3
    simp only [toDs, Option.bind_eq_some_iff, Option.map_eq_some_iff] at e3
    obtain ⟨d, f1, es, f2, rfl⟩ := e3
    have al : AlikeAll (d :: es) := by
      refine ⟨fun p hp q hq => ?_, fun p hp => ?_⟩
      · have h1 := List.all_eq_true.mp hok.1 p hp
        exact List.all_eq_true.mp h1 q hq
      · have e9 : toDs (x :: rest) = some (d :: es) := by simp [toDs, f1, f2]
        intro q; subst q
        obtain ⟨i, hi⟩ := List.mem_iff_getElem?.mp hp
        have lt : i < (x :: rest).length := by
          have := (List.getElem?_eq_some_iff.mp hi).1
          have l1 := rr.length
          have l2 := rv.length
          have l3 : its.toArray.size = es.length + 1 := readsAll_len (by simpa using hr)
          simp at l3 this ⊢
          simp at l1
          omega
        obtain ⟨d2, g1, g2⟩ := toDs_get e9 (List.getElem?_eq_getElem lt)
        rw [hi] at g1; cases g1
        generalize (x :: rest)[i] = y at g2
        cases y <;> simp [toD] at g2
    have hd : X.A.units + 1 + PyData.depthAll (d :: es) < cLine := by have := hok.2; omega
    have fin : ∀ (i : Nat) (v : Value) (h2 : Heap) (tk : Nat) (bs : List Addr), its.toArray[i]? = some v → Reads h2 v (es.foldl (fun a y => if (if b then dataLt a y else dataLt y a) then y else a) d) bs → (∀ c o, s.heap.get? c = some o → h2.get? c = some o) → EP X pins σ Q v { s with heap := h2, toks := tk } := fun i v h2 tk bs hv hR keep => by
      have hv' : its[i]? = some v := by simpa using hv
      have lt := (List.getElem?_eq_some_iff.mp hv').1
      have lt2 : i < vs.length := by rw [rv.length]; exact lt
      have lt3 : i < (x :: rest).length := by rw [rr.length]; exact lt2
      obtain ⟨v1, g1, g2⟩ := rr.get (List.getElem?_eq_getElem lt3)
      obtain ⟨u1, g3, g4⟩ := rv.get g1
      rw [hv'] at g3; cases g3
      obtain ⟨d2, g5, g6⟩ := toDs_get (show toDs (x :: rest) = some (d :: es) by simp [toDs, f1, f2]) (List.getElem?_eq_getElem lt3)
      obtain ⟨bs2, g7⟩ := reads_of I hX _ _ _ _ g2 g4 g6
      have g8 := (Reads.unique (reads_keeps keep g7) _ _ hR).1
      have g9 := best_is b rest es x d f1 f2
      rw [← g8] at g9
      have := toD_inj _ _ _ g9 g6
      refine ⟨v1, H, I.kept (t' := tk) keep, g4, ?_⟩
      rw [this] at k
      exact k.here S g2
    cases b with
    | true => exact max_list_data (I.ok.hd hc) pl.isList (by simpa using hr) al hd fun i v h2 tk bs hv hR keep => fin i v h2 tk bs hv (by simpa [maxD] using hR) keep
    | false => exact min_list_data (I.ok.hd hc) pl.isList (by simpa using hr) al hd fun i v h2 tk bs hv hR keep => fin i v h2 tk bs hv (by simpa [minD] using hR) keep
  · cases e4
end
end GN

set_option Elab.async false
set_option linter.all false
set_option autoImplicit false
set_option maxRecDepth 100000
set_option maxHeartbeats 2000000
/-! G5: items, slices, built-ins. -/
namespace G
open PySem PySem.Spec PyProof.Rows L2
section
variable {X : Cx} {C : Cn}
theorem Reps.ints {ρ : List Addr} {H : Hp} : ∀ {ws : List W} {vs : List V} {ns : List Int}, Reps C ρ H ws vs → intsW ws = some ns → vs = ns.map V.int
  | [], vs, ns, r, e => by
    simp only [intsW, Option.some.injEq] at e; subst e
    exact r.nil'
  | w :: ws, vs, ns, r, e => by
    obtain ⟨v, us, rfl, r1, r2⟩ := r.cons'
    cases w <;> simp only [intsW, Option.map_eq_some_iff, reduceCtorEq] at e
    obtain ⟨ms, e1, rfl⟩ := e
    rw [Reps.ints r2 e1, r1.int]; rfl
theorem Reps.bools {ρ : List Addr} {H : Hp} : ∀ {ws : List W} {vs : List V} {ns : List Bool}, Reps C ρ H ws vs → boolsW ws = some ns → vs = ns.map V.bl
  | [], vs, ns, r, e => by
    simp only [boolsW, Option.some.injEq] at e; subst e
    exact r.nil'
  | w :: ws, vs, ns, r, e => by
    obtain ⟨v, us, rfl, r1, r2⟩ := r.cons'
    cases w <;> simp only [boolsW, Option.map_eq_some_iff, reduceCtorEq] at e
    obtain ⟨ms, e1, rfl⟩ := e
    rw [Reps.bools r2 e1, r1.bl]; rfl
theorem Reps.strs {ρ : List Addr} {H : Hp} : ∀ {ws : List W} {vs : List V} {ns : List (List Nat)}, Reps C ρ H ws vs → strsW ws = some ns → vs = (ns.map strOf).map V.str ∧ ∀ l ∈ ns, okS l
  | [], vs, ns, r, e => by
    simp only [strsW, Option.some.injEq] at e; subst e
    exact ⟨r.nil', fun _ h => nomatch h⟩
  | w :: ws, vs, ns, r, e => by
    obtain ⟨v, us, rfl, r1, r2⟩ := r.cons'
    cases w <;> simp only [strsW, Option.map_eq_some_iff, reduceCtorEq] at e
    obtain ⟨ms, e1, rfl⟩ := e
    obtain ⟨h1, h2⟩ := Reps.strs r2 e1
    rw [h1, r1.str.1]
    refine ⟨rfl, fun l hl => ?_⟩
    rcases List.mem_cons.mp hl with rfl | hl
    · exact r1.str.2
    · exact h2 l hl
theorem fold_max : ∀ (xs : List Int) (x : Int), (xs.foldl (fun a b => if a < b then b else a) x) ∈ x :: xs ∧ ∀ y ∈ x :: xs, y ≤ xs.foldl (fun a b => if a < b then b else a) x
  | [], x => by simp
  | z :: xs, x => by
    have ih := fold_max xs (if x < z then z else x)
    rw [List.foldl_cons]
    refine ⟨?_, fun y hy => ?_⟩
    · rcases List.mem_cons.mp ih.1 with h | h
      · rw [h]; split <;> simp
      · simp [h]
    · have h0 := ih.2 _ List.mem_cons_self
      rcases List.mem_cons.mp hy with rfl | hy
      · (revert h0; generalize List.foldl (fun a b : Int => if a < b then b else a) _ xs = m; intro h0; split at h0 <;> omega)
      · rcases List.mem_cons.mp hy with rfl | hy
        · (revert h0; generalize List.foldl (fun a b : Int => if a < b then b else a) _ xs = m; intro h0; split at h0 <;> omega)
        · exact ih.2 y (List.mem_cons_of_mem _ hy)
theorem fold_min : ∀ (xs : List Int) (x : Int), (xs.foldl (fun a b => if b < a then b else a) x) ∈ x :: xs ∧ ∀ y ∈ x :: xs, xs.foldl (fun a b => if b < a then b else a) x ≤ y
  | [], x => by simp
  | z :: xs, x => by
    have ih := fold_min xs (if z < x then z else x)
    rw [List.foldl_cons]
    refine ⟨?_, fun y hy => ?_⟩
    · rcases List.mem_cons.mp ih.1 with h | h
      · rw [h]; split <;> simp
      · simp [h]
    · have h0 := ih.2 _ List.mem_cons_self
      rcases List.mem_cons.mp hy with rfl | hy
      · (revert h0; generalize List.foldl (fun a b : Int => if b < a then b else a) _ xs = m; intro h0; split at h0 <;> omega)
      · rcases List.mem_cons.mp hy with rfl | hy
        · (revert h0; generalize List.foldl (fun a b : Int => if b < a then b else a) _ xs = m; intro h0; split at h0 <;> omega)
        · exact ih.2 y (List.mem_cons_of_mem _ hy)
/-- a built-in's call by values -/
def rBi (C : Cn) (b : Bi) : List V → Hp → VK → Prop := fun vs H Q => ∃ ρ s ws w, SR C ρ H s ∧ Reps C ρ H ws vs ∧ biop b ws s = some w ∧ OkP C ρ H s w Q
theorem rep1 {ρ : List Addr} {H : Hp} {a : W} {vs : List V} (r : Reps C ρ H [a] vs) : ∃ v, vs = [v] ∧ Rep C ρ H a v := by
  obtain ⟨v, us, rfl, r1, r2⟩ := r.cons'
  have := r2.nil'; subst this
  exact ⟨v, rfl, r1⟩
theorem cb_len (hX : X.K = C.K) : CallR X (.builtin "len") (rBi C .len) := by
  intro pins st σ H xs us Q I r h
  obtain ⟨ρ, s, ws, w, S, rs, e, k⟩ := h
  simp only [biop] at e
  unfold bLen at e
  split at e <;> (try (cases e; done))
  · split at e
    · rename_i hl
      cases e
      obtain ⟨v, rfl, r1⟩ := rep1 rs
      rw [r1.str.1] at r
      refine call_len pins st σ H _ _ Q I r ⟨_, _, rfl, ⟨by rw [strOf_len, ← line_eq]; exact hl, rfl⟩, ?_⟩
      rw [strOf_len]
      exact k.here S Rep.mkI
    · cases e
  · simp only [Option.map_eq_some_iff] at e
    obtain ⟨ys, e1, rfl⟩ := e
    obtain ⟨v, rfl, r1⟩ := rep1 rs
    obtain ⟨p, vs, rfl, hs, r2⟩ := seqI_rep S r1 e1
    refine call_len_seq pins st σ H _ _ Q I r ⟨p, vs, rfl, hX ▸ hs, ?_⟩
    rw [← r2.length]
    exact k.here S Rep.mkI
theorem cb_abs : CallR X (.builtin "abs") (rBi C .abs) := by
  intro pins st σ H xs us Q I r h
  obtain ⟨ρ, s, ws, w, S, rs, e, k⟩ := h
  simp only [biop] at e
  unfold bAbs at e
  split at e
  · cases e
    obtain ⟨v, rfl, r1⟩ := rep1 rs
    rw [r1.int] at r
    exact call_abs pins st σ H _ _ Q I r ⟨_, rfl, k.here S Rep.mkI⟩
  · cases e
theorem cb_int : CallR X (.type "int") (rBi C .int) := by
  intro pins st σ H xs us Q I r h
  obtain ⟨ρ, s, ws, w, S, rs, e, k⟩ := h
  simp only [biop] at e
  unfold bInt at e
  split at e <;> (try (cases e; done))
  · cases e
    obtain ⟨v, rfl, r1⟩ := rep1 rs
    rw [r1.int] at r
    exact call_int1 pins st σ H _ _ Q I r (.inl ⟨_, rfl, k.here S Rep.mkI⟩)
  · cases e
    obtain ⟨v, rfl, r1⟩ := rep1 rs
    rw [r1.bl] at r
    exact call_int1 pins st σ H _ _ Q I r (.inr ⟨_, rfl, k.here S Rep.mkI⟩)
theorem reps_ints {ρ : List Addr} {H : Hp} : ∀ ns : List Int, Reps C ρ H (ns.map .int) (ns.map V.int)
  | [] => by simp only [List.map_nil, Reps]
  | n :: ns => by
    simp only [List.map_cons]
    exact Reps.mk Rep.mkI (reps_ints ns)
/-- what list(x) takes -/
theorem list_of {ρ : List Addr} {H : Hp} {s : ST} {a w : W} {v : V} (S : SR C ρ H s) (r : Rep C ρ H a v) (e : biop .list [a] s = some w) : ∃ ws p vs, w = .lst ws ∧ v = .ref p ∧ (SqL C.K H p vs ∨ SqT C.K H p vs) ∧ Reps C ρ H ws vs := by
  cases a with
  | scr ns =>
    simp only [biop, bList, Option.some.injEq] at e; subst e
    simp only [Rep] at r
    obtain ⟨p, rfl, ⟨_, rd⟩ | rd⟩ := r
    · exact ⟨_, p, _, rfl, rfl, .inl (.inl rd), reps_ints _⟩
    · exact ⟨_, p, _, rfl, rfl, .inl (.inr rd), reps_ints _⟩
  | _ =>
    simp only [biop, bList, Option.map_eq_some_iff] at e
    obtain ⟨ys, e1, rfl⟩ := e
    obtain ⟨p, vs, rfl, hs, r2⟩ := seqI_rep S r e1
    exact ⟨_, p, _, rfl, rfl, hs, r2⟩
theorem biop_list1 {s : ST} {ws : List W} {w : W} (e : biop .list ws s = some w) : ∃ a, ws = [a] := by
  simp only [biop] at e
  unfold bList at e
  split at e <;> (try (cases e; done)) <;> exact ⟨_, rfl⟩
theorem cb_list (hX : X.K = C.K) : CallR X (.type "list") (rBi C .list) := by
  intro pins st σ H xs us Q I r h
  obtain ⟨ρ, s, ws, w, S, rs, e, k⟩ := h
  obtain ⟨a, rfl⟩ := biop_list1 e
  obtain ⟨v, rfl, r1⟩ := rep1 rs
  obtain ⟨ws, p, vs, rfl, rfl, hs, r2⟩ := list_of S r1 e
  exact call_list_of pins st σ H _ _ Q I r ⟨p, vs, rfl, hX ▸ hs, k.lst S r2⟩
theorem cb_tuple (hX : X.K = C.K) : CallR X (.type "tuple") (rBi C .tuple) := by
  intro pins st σ H xs us Q I r h
  obtain ⟨ρ, s, ws, w, S, rs, e, k⟩ := h
  simp only [biop] at e
  unfold bTuple at e
  split at e <;> (try (cases e; done))
  · rename_i zs
    cases e
    obtain ⟨v, rfl, r1⟩ := rep1 rs
    have r1' := r1
    obtain ⟨p, vs, rfl, q, r2⟩ := (Rep.soft (.htup zs) _ r1).tup
    exact call_tuple_of pins st σ H _ _ Q I r ⟨p, vs, rfl, .inr ⟨hX ▸ q.sq, k.here S r1'⟩⟩
  rename_i a hna
  simp only [Option.map_eq_some_iff] at e
  obtain ⟨ys, e1, rfl⟩ := e
  obtain ⟨v, rfl, r1⟩ := rep1 rs
  cases a with
  | tup zs =>
    simp only [seqI, Option.some.injEq] at e1; subst e1
    have r1' := r1
    obtain ⟨p, vs, rfl, q, r2⟩ := r1.tup
    exact call_tuple_of pins st σ H _ _ Q I r ⟨p, vs, rfl, .inr ⟨hX ▸ q.sq, k.here S r1'⟩⟩
  | lst zs =>
    obtain ⟨p, vs, rfl, hs, r2⟩ := seqL_rep (xs := ys) S r1 e1
    exact call_tuple_of pins st σ H _ _ Q I r ⟨p, vs, rfl, .inl ⟨SqL.of hs, k.tup S r2⟩⟩
  | ref n =>
    obtain ⟨p, vs, rfl, hs, r2⟩ := seqL_rep (xs := ys) S r1 e1
    exact call_tuple_of pins st σ H _ _ Q I r ⟨p, vs, rfl, .inl ⟨SqL.of hs, k.tup S r2⟩⟩
  | htup zs => exact (hna zs rfl).elim
  | _ => simp [seqI] at e1
theorem cb_htuple : CallR X (.type "tuple") (rBi C .htuple) := by
  intro pins st σ H xs us Q I r h
  obtain ⟨ρ, s, ws, w, S, rs, e, k⟩ := h
  simp only [biop] at e
  unfold bHtuple at e
  split at e <;> (try (cases e; done))
  rename_i a
  simp only [Option.map_eq_some_iff] at e
  obtain ⟨ys, e1, rfl⟩ := e
  obtain ⟨v, rfl, r1⟩ := rep1 rs
  obtain ⟨p, vs, rfl, hs, r2⟩ := seqL_rep S r1 e1
  exact GN.call_htuple pins st σ H _ _ Q I r ⟨p, vs, rfl, SqL.of hs, k.htup S r2⟩
theorem digits_of (i : Int) : (toString i : Str) = strOf (intStr i) := GN.int_text i
theorem okS_int (i : Int) : okS (intStr i) := GN.int_small i
theorem cb_str : CallR X (.type "str") (rBi C .str) := by
  intro pins st σ H xs us Q I r h
  obtain ⟨ρ, s, ws, w, S, rs, e, k⟩ := h
  simp only [biop] at e
  unfold bStr at e
  split at e <;> (try (cases e; done))
  · split at e
    · rename_i i hb
      cases e
      obtain ⟨v, rfl, r1⟩ := rep1 rs
      rw [r1.int] at r
      refine call_str_int pins st σ H _ _ Q I r ⟨_, rfl, ?_, ?_⟩
      · have : i.natAbs < 2 ^ 64 := by
          have e : big = 2 ^ 64 := rfl
          omega
        by_cases h0 : i.natAbs = 0
        · rw [h0]; decide
        · exact Nat.lt_of_lt_of_le ((Nat.log2_lt h0).mpr this) (by decide)
      · rw [digits_of]
        exact k.here S (Rep.mkS (okS_int i))
    · cases e
  · rename_i l
    cases e
    obtain ⟨v, rfl, r1⟩ := rep1 rs
    rw [r1.str.1] at r
    exact SkE.call_str_str pins st σ H _ _ Q I r ⟨_, rfl, k.here S (Rep.mkS r1.str.2)⟩
theorem cb_sorted : CallR X (.builtin "sorted") (rBi C .sorted) := by
  intro pins st σ H xs us Q I r h
  obtain ⟨ρ, s, ws, w, S, rs, e, k⟩ := h
  simp only [biop] at e
  unfold bSorted at e
  split at e <;> (try (cases e; done))
  simp only [Option.bind_eq_some_iff] at e
  obtain ⟨ys, e1, ns, e2, e3⟩ := e
  split at e3
  · rename_i few
    cases e3
    obtain ⟨v, rfl, r1⟩ := rep1 rs
    obtain ⟨p, vs, rfl, hs, r2⟩ := seqL_rep S r1 e1
    obtain ⟨h1, h2⟩ := r2.strs e2
    subst h1
    refine cr_sortedS pins st σ H _ _ Q I r ⟨p, ns.map strOf, rfl, SqL.of hs, by rw [List.length_map]; exact few, fun ys2 q pm so hn => ?_⟩
    have e4 := GN.sorted_is pm so
    subst e4
    have r3 : Reps C ρ H ((ssort ns).map .str) (((ssort ns).map strOf).map V.str) := GN.reps_texts _ fun l hl => h2 l ((GN.ssort_perm ns).mem_iff.mp hl)
    exact k.lst S r3 q hn
  · cases e3
theorem cb_dict (hX : X.K = C.K) (hc : X.calm = true) : CallR X (.type "dict") (rBi C .dict) := by
  intro pins st σ H xs us Q I r h
  obtain ⟨ρ, s, ws, w, S, rs, e, k⟩ := h
  simp only [biop] at e
  have fin : ∀ (ys : List W) (vs : List V) (ps : List (List Nat × W)), Reps C ρ H ys vs → pairsOf ys = some ps → ∃ (as : List Addr) (kvs : List (Key × V)), vs = as.map V.ref ∧ Paired (fun p kv => SqT X.K H p [kV kv.1, kv.2]) as kvs ∧ ∀ p, H p = none → Rep C ρ (upd H p (.dK (mergeK [] kvs))) (dctOf ps) (.ref p) := fun ys vs ps r2 e2 => by
    obtain ⟨as, kvs, e3, e4, e5⟩ := GN.pairs_rep hX r2 e2
    exact ⟨as, kvs, e3, e4, fun p hn => GN.dict_rep S hn e5⟩
  unfold bDict at e
  split at e <;> (try (cases e; done))
  · rename_i ys
    obtain ⟨ps, e2, rfl⟩ := Option.map_eq_some_iff.mp e
    obtain ⟨v, rfl, r1⟩ := rep1 rs
    simp only [Rep] at r1
    obtain ⟨p, vs, o, rfl, _, hp, hd, r2⟩ := r1
    obtain ⟨as, kvs, rfl, e4, e5⟩ := fin ys vs ps r2 e2
    refine GN.call_dictH hc pins st σ H _ _ Q I r ⟨p, as, kvs, o, rfl, hp, hd, e4, fun q hn => ?_⟩
    exact k ρ _ _ (Gr.new hn) (S.new hn) (e5 q hn)
  · obtain ⟨ys, e1, e9⟩ := Option.bind_eq_some_iff.mp e
    obtain ⟨ps, e2, rfl⟩ := Option.map_eq_some_iff.mp e9
    obtain ⟨v, rfl, r1⟩ := rep1 rs
    obtain ⟨p, vs, rfl, hs, r2⟩ := seqL_rep S r1 e1
    obtain ⟨as, kvs, rfl, e4, e5⟩ := fin ys vs ps r2 e2
    refine call_dictP hc pins st σ H _ _ Q I r ⟨p, as, kvs, rfl, SqL.of hs, e4, fun q hn => ?_⟩
    exact k ρ _ _ (Gr.new hn) (S.new hn) (e5 q hn)
theorem cb_max_ints (hc : X.calm = true) : CallR X (.builtin "max") (fun vs H Q => ∃ ρ s ws w, SR C ρ H s ∧ Reps C ρ H ws vs ∧ bInts s lmax ws = some w ∧ OkP C ρ H s w Q) := by
  intro pins st σ H xs us Q I r h
  obtain ⟨ρ, s, ws, w, S, rs, e, k⟩ := h
  unfold bInts at e
  split at e <;> (try (cases e; done))
  simp only [Option.bind_eq_some_iff, Option.map_eq_some_iff] at e
  obtain ⟨ys, e1, ns, e2, m, e3, rfl⟩ := e
  obtain ⟨v, rfl, r1⟩ := rep1 rs
  obtain ⟨p, vs, rfl, hs, r2⟩ := seqL_rep S r1 e1
  have := r2.ints e2; subst this
  cases ns with
  | nil => simp [lmax] at e3
  | cons n ns =>
    simp only [lmax, Option.some.injEq] at e3
    obtain ⟨f1, f2⟩ := fold_max ns n
    rw [e3] at f1 f2
    refine cr_max hc pins st σ H _ _ Q I r ⟨p, n :: ns, rfl, SqL.of hs, by simp, fun m' h1 h2 => ?_⟩
    have : m' = m := Int.le_antisymm (f2 m' h1) (h2 m f1)
    subst this
    exact k.here S Rep.mkI
theorem cb_max (hX : X.K = C.K) (hc : X.calm = true) (hu : X.A.units + 64 < cLine) : CallR X (.builtin "max") (rBi C .max) := by
  intro pins st σ H xs us Q I r h
  obtain ⟨ρ, s, ws, w, S, rs, e, k⟩ := h
  simp only [biop] at e
  unfold bTwo at e
  split at e
  · rename_i i j
    cases e
    obtain ⟨v, us', rfl, r1, r2⟩ := rs.cons'
    obtain ⟨u, rfl, r3⟩ := rep1 r2
    rw [r1.int, r3.int] at r
    exact call_max2 hc pins st σ H _ _ Q I r ⟨i, j, rfl, k.here S Rep.mkI⟩
  split at e
  · rename_i w' ew
    cases e
    exact cb_max_ints hc pins st σ H _ _ Q I r ⟨ρ, s, _, _, S, rs, ew, k⟩
  · have ew := e
    unfold bDat at ew
    split at ew <;> (try (cases ew; done))
    obtain ⟨v, rfl, r1⟩ := rep1 rs
    obtain ⟨u, rfl, ru⟩ := vals1 r
    exact GN.best_ok (b := true) hX hc hu I S r1 ru e k
theorem cb_min_ints (hc : X.calm = true) : CallR X (.builtin "min") (fun vs H Q => ∃ ρ s ws w, SR C ρ H s ∧ Reps C ρ H ws vs ∧ bInts s lmin ws = some w ∧ OkP C ρ H s w Q) := by
  intro pins st σ H xs us Q I r h
  obtain ⟨ρ, s, ws, w, S, rs, e, k⟩ := h
  unfold bInts at e
  split at e <;> (try (cases e; done))
  simp only [Option.bind_eq_some_iff, Option.map_eq_some_iff] at e
  obtain ⟨ys, e1, ns, e2, m, e3, rfl⟩ := e
  obtain ⟨v, rfl, r1⟩ := rep1 rs
  obtain ⟨p, vs, rfl, hs, r2⟩ := seqL_rep S r1 e1
  have := r2.ints e2; subst this
  cases ns with
  | nil => simp [lmin] at e3
  | cons n ns =>
    simp only [lmin, Option.some.injEq] at e3
    obtain ⟨f1, f2⟩ := fold_min ns n
    rw [e3] at f1 f2
    refine cr_min hc pins st σ H _ _ Q I r ⟨p, n :: ns, rfl, SqL.of hs, by simp, fun m' h1 h2 => ?_⟩
    have : m' = m := Int.le_antisymm (h2 m f1) (f2 m' h1)
    subst this
    exact k.here S Rep.mkI
theorem cb_min (hX : X.K = C.K) (hc : X.calm = true) (hu : X.A.units + 64 < cLine) : CallR X (.builtin "min") (rBi C .min) := by
  intro pins st σ H xs us Q I r h
  obtain ⟨ρ, s, ws, w, S, rs, e, k⟩ := h
  simp only [biop] at e
  unfold bTwo at e
  split at e
  · rename_i i j
    cases e
    obtain ⟨v, us', rfl, r1, r2⟩ := rs.cons'
    obtain ⟨u, rfl, r3⟩ := rep1 r2
    rw [r1.int, r3.int] at r
    exact call_min2 hc pins st σ H _ _ Q I r ⟨i, j, rfl, k.here S Rep.mkI⟩
  split at e
  · rename_i w' ew
    cases e
    exact cb_min_ints hc pins st σ H _ _ Q I r ⟨ρ, s, _, _, S, rs, ew, k⟩
  · have ew := e
    unfold bDat at ew
    split at ew <;> (try (cases ew; done))
    obtain ⟨v, rfl, r1⟩ := rep1 rs
    obtain ⟨u, rfl, ru⟩ := vals1 r
    exact GN.best_ok (b := false) hX hc hu I S r1 ru e k
theorem cb_sum (hc : X.calm = true) : CallR X (.builtin "sum") (rBi C .sum) := by
  intro pins st σ H xs us Q I r h
  obtain ⟨ρ, s, ws, w, S, rs, e, k⟩ := h
  simp only [biop] at e
  unfold bInts at e
  split at e <;> (try (cases e; done))
  simp only [Option.bind_eq_some_iff, Option.map_eq_some_iff] at e
  obtain ⟨ys, e1, ns, e2, m, e3, rfl⟩ := e
  cases e3
  obtain ⟨v, rfl, r1⟩ := rep1 rs
  obtain ⟨p, vs, rfl, hs, r2⟩ := seqL_rep S r1 e1
  have := r2.ints e2; subst this
  exact cr_sum hc pins st σ H _ _ Q I r ⟨p, ns, rfl, SqL.of hs, k.here S Rep.mkI⟩
theorem cb_all (hc : X.calm = true) : CallR X (.builtin "all") (rBi C .all) := by
  intro pins st σ H xs us Q I r h
  obtain ⟨ρ, s, ws, w, S, rs, e, k⟩ := h
  simp only [biop] at e
  unfold bBools at e
  split at e <;> (try (cases e; done))
  simp only [Option.bind_eq_some_iff, Option.map_eq_some_iff] at e
  obtain ⟨ys, e1, ns, e2, rfl⟩ := e
  obtain ⟨v, rfl, r1⟩ := rep1 rs
  obtain ⟨p, vs, rfl, hs, r2⟩ := seqL_rep S r1 e1
  have := r2.bools e2; subst this
  exact cr_all hc pins st σ H _ _ Q I r ⟨p, ns, rfl, SqL.of hs, k.here S Rep.mkB⟩
theorem cb_any (hc : X.calm = true) : CallR X (.builtin "any") (rBi C .any) := by
  intro pins st σ H xs us Q I r h
  obtain ⟨ρ, s, ws, w, S, rs, e, k⟩ := h
  simp only [biop] at e
  unfold bBools at e
  split at e <;> (try (cases e; done))
  simp only [Option.bind_eq_some_iff, Option.map_eq_some_iff] at e
  obtain ⟨ys, e1, ns, e2, rfl⟩ := e
  obtain ⟨v, rfl, r1⟩ := rep1 rs
  obtain ⟨p, vs, rfl, hs, r2⟩ := seqL_rep S r1 e1
  have := r2.bools e2; subst this
  exact cr_any hc pins st σ H _ _ Q I r ⟨p, ns, rfl, SqL.of hs, k.here S Rep.mkB⟩
/-- a value's type -/
def tyW : W → Option String
  | .non => some "NoneType" | .bl _ => some "bool" | .int _ => some "int" | .str _ => some "str" | .tup _ => some "tuple" | .htup _ => some "tuple" | .lst _ => some "list" | .ref _ => some "list" | _ => none
theorem tyW_X {ρ : List Addr} {H : Hp} {s : ST} {a : W} {v : V} {t : String} (hX : X.K = C.K) (S : SR C ρ H s) (r : Rep C ρ H a v) (e : tyW a = some t) : TyX X.K H v (.type t) := by
  cases a <;> simp only [tyW, Option.some.injEq, reduceCtorEq] at e <;> subst e <;> simp only [Rep] at r
  · subst r; exact .base .non
  · subst r; exact .base (.bl _)
  · subst r; exact .base (.int _)
  · obtain ⟨r, _⟩ := r; subst r; exact .base (.str _)
  · obtain ⟨p, vs, rfl, q, _⟩ := r
    rcases q with ⟨_, q | ⟨o, q⟩⟩ | ⟨o, its, n, q1, q2, _⟩
    · exact .base (.tup q)
    · exact .fTuple q
    · exact .kTuple (hX ▸ q1) q2
  · obtain ⟨p, vs, o, rfl, _, q, _⟩ := r; exact .fTuple q
  · obtain ⟨p, vs, rfl, _, q, _⟩ := r; exact .base (.lst q)
  · obtain ⟨p, e, rfl⟩ := r
    obtain ⟨vs, q⟩ := S.some (List.mem_of_getElem? e)
    exact .base (.lst q)
theorem isTy_kit {a : W} {t : String} {k : Bool} (e : isTy a t = some k) : ∃ u, tyW a = some u ∧ PySem.W.kitOne X.K (.type u) (.type t) = some k := by
  unfold isTy at e
  split at e
  all_goals first
    | (cases e; done)
    | (cases a <;> simp only [Option.some.injEq, reduceCtorEq] at e <;> subst e <;> exact ⟨_, rfl, kit_ty (by decide +kernel)⟩)
theorem cb_isi (hX : X.K = C.K) : CallR X (.builtin "isinstance") (rBi C .isi) := by
  intro pins st σ H xs us Q I r h
  obtain ⟨ρ, s, ws, w, S, rs, e, k⟩ := h
  simp only [biop] at e
  unfold bIsi at e
  split at e
  · rename_i a t

    obtain ⟨b, e1, rfl⟩ := Option.map_eq_some_iff.mp e
    obtain ⟨v, us', rfl, r1, r2⟩ := rs.cons'
    obtain ⟨v2, rfl, r3⟩ := rep1 r2
    unfold Rep at r3; subst r3
    obtain ⟨u, e2, e3⟩ := isTy_kit (X := X) e1
    exact call_isi pins st σ H _ _ Q I r ⟨v, _, _, _, b, rfl, .ty t, tyW_X hX S r1 e2, e3, k.here S Rep.mkB⟩
  · cases e
/-! items and slices -/
theorem okS_sub {l m : List Nat} (h : okS l) (s : ∀ c ∈ m, c ∈ l) : okS m := fun c hc => h c (s c hc)
theorem cut_eq (xs : List V) (lo hi : Option Int) : cutV xs lo hi = cut xs lo hi := rfl
theorem cut_str (l : List Nat) (lo hi : Option Int) : cutS (strOf l) lo hi = strOf (cut l lo hi) := by
  unfold cutS
  rw [strOf_len]
  rfl
theorem okS_cut {l : List Nat} (h : okS l) (lo hi : Option Int) : okS (cut l lo hi) := okS_sub h fun c hc => List.mem_of_mem_drop (List.mem_of_mem_take hc)
theorem Reps.cut {ρ : List Addr} {H : Hp} {ws : List W} {vs : List V} (r : Reps C ρ H ws vs) (lo hi : Option Int) : Reps C ρ H (cut ws lo hi) (cutV vs lo hi) := by
  rw [cut_eq]
  unfold G.cut
  rw [← r.length]
  exact (r.drop _).take _
/-- a slice by values -/
def rSl (C : Cn) : V → Option Int → Option Int → Hp → VK → Prop := fun x lo hi H Q => ∃ ρ s a w, SR C ρ H s ∧ Rep C ρ H a x ∧ slice a lo hi s = some w ∧ OkP C ρ H s w Q
theorem sl_all (hX : X.K = C.K) : SlR X (rSl C) := by
  intro pins st σ H x v vl vu lo hi sl Q I rx hs pl pu h
  obtain ⟨ρ, s, a, w, S, ra, e, k⟩ := h
  unfold slice at e
  split at e
  · split at e
    · rename_i hl
      cases e
      rw [ra.str.1] at rx
      refine sl_str pins st σ H _ v vl vu lo hi sl Q I rx hs pl pu ⟨_, rfl, by rw [strOf_len, ← line_eq]; exact hl, ?_⟩
      rw [cut_str]
      exact k.here S (Rep.mkS (okS_cut ra.str.2 _ _))
    · cases e
  · cases e
    have ra' := ra
    obtain ⟨p, vs, rfl, q, r⟩ := ra.tup
    refine sl_tupA pins st σ H _ v vl vu lo hi sl Q I rx hs pl pu ⟨p, vs, rfl, hX ▸ q.sq, fun hw => ?_, fun _ => k.tup S (r.cut lo hi)⟩
    refine k.here S ?_
    rename_i xs
    have : cut xs lo hi = xs := by
      unfold cut
      have h1 : cutIx xs.length 0 lo = 0 := by rw [r.length]; exact hw.1
      have h2 : cutIx xs.length xs.length hi = xs.length := by rw [r.length]; exact hw.2
      rw [h1, h2]; simp
    rw [this]; exact ra'
  · simp only [Option.map_eq_some_iff] at e
    obtain ⟨ys, e1, rfl⟩ := e
    obtain ⟨p, vs, rfl, q, r⟩ := seqL_rep S ra e1
    exact sl_list pins st σ H _ v vl vu lo hi sl Q I rx hs pl pu ⟨p, vs, rfl, SqL.of q, k.lst S (r.cut lo hi)⟩
theorem ix_eq (n : Nat) (i : Int) : ixN n i = ixOf i n := rfl
/-- an item by values, but of a dict -/
def rIt (C : Cn) : R2 := fun x y H Q => ∃ ρ s a b w, SR C ρ H s ∧ Rep C ρ H a x ∧ Rep C ρ H b y ∧ (∀ ks vs, a ≠ .dct ks vs) ∧ item a b s = some w ∧ OkP C ρ H s w Q
theorem it_all (hX : X.K = C.K) : IxR X (rIt C) := by
  intro value slc pins st σ H x y v u Q I rx ry h hs
  obtain ⟨ρ, s, a, b, w, S, ra, rb, nd, e, k⟩ := h
  have fin : ∀ (i : Int) (xs : List W), b = .int i → seqI s a = some xs → ((ixOf i xs.length).bind fun j => xs[j]?) = some w → wpAny (model X.prog X.w) X.A (subscriptTail value slc v u) (EP X pins σ Q) X.xe st := fun i xs eb e1 e2 => by
    subst eb
    simp only [Option.bind_eq_some_iff] at e2
    obtain ⟨j, e2, e3⟩ := e2
    rw [rb.int] at ry
    obtain ⟨p, vs, rfl, hq, r⟩ := seqI_rep S ra e1
    obtain ⟨z, e4, r2⟩ := r.get e3
    have e5 : atI vs i = some z := by
      unfold atI
      rw [ix_eq, ← r.length, e2]; exact e4
    rw [← hX] at hq
    rcases hq with hq | hq
    · exact ix_list value slc pins st σ H _ _ v u Q I rx ry ⟨p, vs, i, z, rfl, rfl, hq, e5, k.here S r2⟩ hs
    · exact ix_tup value slc pins st σ H _ _ v u Q I rx ry ⟨p, vs, i, z, rfl, rfl, hq, e5, k.here S r2⟩ hs
  unfold item at e
  split at e
  · rename_i l i
    split at e
    · rename_i hl
      simp only [Option.map_eq_some_iff, Option.bind_eq_some_iff] at e
      obtain ⟨c, ⟨j, e1, e2⟩, rfl⟩ := e
      rw [ra.str.1] at rx; rw [rb.int] at ry
      refine ix_str value slc pins st σ H _ _ v u Q I rx ry ⟨_, _, c, rfl, rfl, by rw [strOf_len, ← line_eq]; exact hl, ?_, k.here S (Rep.mkS (l := [c]) ?_)⟩ hs
      · show atI l i = some c
        unfold atI
        rw [ix_eq, e1]; exact e2
      · exact okS_sub ra.str.2 fun d hd => by
          have : d = c := by simpa using hd
          subst this
          exact List.mem_of_getElem? e2
    · cases e
  · exact (nd _ _ rfl).elim
  · simp only [Option.bind_eq_some_iff] at e
    obtain ⟨xs, e1, e2⟩ := e
    exact fin _ xs rfl e1 (by simpa only [Option.bind_eq_some_iff] using e2)
  · cases e
end
end G

set_option Elab.async false
set_option linter.all false
set_option autoImplicit false
set_option maxRecDepth 100000
set_option maxHeartbeats 2000000
/-! GT: defs that call a lambda and tell which error they met. -/
namespace G
open PySem PySem.Spec PyProof.Rows L2 LamX
/-- what is done with a clause: passed; its suite; its suite, the error's name in slot i -/
inductive Go where
  | past
  | suite (ts : Addr → Value → Option Addr → TS)
  | named (i : Nat) (ts : Addr → Value → Option Addr → TS)
/-- the ends of a suite behind which the name in slot i goes -/
def ungo (i : Nat) (D : Ends) : Ends := ⟨fun σ => D.nx (σ.set i none), D.rt, fun σ => D.bk (σ.set i none), fun σ => D.ct (σ.set i none)⟩
/-- what the clauses want of an error of the body -/
def wCl (K : PySem.W.Frag) (Wo : WX) (D : Ends) : List (Value × Go) → WX
  | [], cls, d, σ, H => Wo cls d σ H
  | (c, g) :: r, cls, d, σ, H => match PySem.W.exmOne K cls c, g with
    | some true, .suite ts => ∀ a, H a = none → ts a cls d D σ H
    | some true, .named i ts => ∀ a, H a = none → ts a cls d (ungo i D) (σ.set i (some (.ref a))) H
    | some false, _ => wCl K Wo D r cls d σ H
    | _, _ => False
/-- the clauses of a try; full: none is left out at the end -/
inductive Clauses (X : Cx) : Bool → List ExceptHandler → List (Value × Go) → Prop
  | none : Clauses X true [] []
  | rest {hds : List ExceptHandler} : Clauses X false hds []
  | past {f : Bool} {x : Str} {c : Value} {nm : Option Str} {bs : List Stmt} {p q : Pos} {hds : List ExceptHandler} {l : List (Value × Go)} (hc : Names X x c) (r : Clauses X f hds l) :
      Clauses X f (.ExceptHandler (some (.Name x p)) nm bs q :: hds) ((c, .past) :: l)
  | suite {f : Bool} {x : Str} {c : Value} {ts : Addr → Value → Option Addr → TS} {b : Stmt} {bs : List Stmt} {p q : Pos} {hds : List ExceptHandler} {l : List (Value × Go)} (hc : Names X x c)
      (su : ∀ (a : Addr) (oe : Obj) (cls : Value) (d : Option Addr) (pn : List (Addr × Obj)), Zc cls d oe → (∃ vs, oe.data = .fields vs) → PSs (X.suite a ((a, oe) :: pn)) (b :: bs) (ts a cls d)) (r : Clauses X f hds l) :
      Clauses X f (.ExceptHandler (some (.Name x p)) none (b :: bs) q :: hds) ((c, .suite ts) :: l)
  | named {f : Bool} {i : Nat} {x n : Str} {c : Value} {ts : Addr → Value → Option Addr → TS} {b : Stmt} {bs : List Stmt} {p q : Pos} {hds : List ExceptHandler} {l : List (Value × Go)} (hc : Names X x c)
      (hN : X.N[i]? = some n) (hn : X.N.Nodup) (hl : X.env.kindOf n = some .local)
      (su : ∀ (a : Addr) (oe : Obj) (cls : Value) (d : Option Addr) (pn : List (Addr × Obj)), Zc cls d oe → (∃ vs, oe.data = .fields vs) → PSs (X.suite a ((a, oe) :: pn)) (b :: bs) (ts a cls d)) (r : Clauses X f hds l) :
      Clauses X f (.ExceptHandler (some (.Name x p)) (some n) (b :: bs) q :: hds) ((c, .named i ts) :: l)
abbrev W0 : WX := fun _ _ _ _ => False
/-- an error that has been caught, where its clauses are asked: B, s0 tell whence it came -/
structure Cau (X : Cx) (pins : List (Addr × Obj)) (B : Heap) (s0 : Shared) (a : Addr) (cls : Value) (d : Option Addr) (σ : L2.St) (H : Hp) (s : Shared) : Prop where
  ok : X.Ok
  fr : X.env.frame = some X.env.locals
  st : X.stack = X.env :: X.outer
  inv : Inv X pins σ H s0
  nb : ∀ b o, s0.heap.get? b = some o → b ∉ frs X.stack → B.get? b = some o
  up : s0.heap.UpToSlots s.heap
  os : s.os = s0.os
  gens : AllBare s.gens
  fly : HandSPX.FlyingZ B (X.env :: X.outer) a (Zc cls d) s.heap
  new : H a = none
section
variable {X : Cx} {pins : List (Addr × Obj)} {B : Heap} {s0 s : Shared} {a : Addr} {cls : Value} {d : Option Addr} {σ : L2.St} {H : Hp}
theorem Cau.here (c : Cau X pins B s0 a cls d σ H s) : Inv X pins σ H s := c.inv.landed c.nb c.fly.1 c.up c.os c.gens
theorem Cau.hop (c : Cau X pins B s0 a cls d σ H s) {h : Heap} (f : HandSPX.FlyingZ B (X.env :: X.outer) a (Zc cls d) h) (u : s.heap.UpToSlots h) : Cau X pins B s0 a cls d σ H { s with heap := h } :=
  { c with up := c.up.trans u, fly := f }
/-- seen from within a clause -/
theorem Cau.within (c : Cau X pins B s0 a cls d σ H s) : ∃ (oe : Obj) (vs : Array Value), s.heap.get? a = some oe ∧ Zc cls d oe ∧ oe.data = .fields vs ∧ Inv (X.suite a ((a, oe) :: (X.pn ++ pins))) [] σ H s := by
  obtain ⟨oe, vs, e1, e2, e3⟩ := c.fly.there
  have apart : a ∉ frs (X.env :: X.outer) := by
    intro hm
    obtain ⟨q, u, e4, e5⟩ := c.fly.2.2.1.mem hm
    rw [e1] at e4
    cases e4
    exact e5 _ e3
  have mine : ∀ e ∈ X.env :: X.outer, e.frame ≠ some a := fun e he q => apart (List.mem_filterMap.mpr ⟨e, he, q⟩)
  refine ⟨oe, vs, e1, e2, e3, c.here.suite e1 e3 c.new ?_ ?_⟩
  · intro q
    exact mine X.env List.mem_cons_self (by rw [c.fr, q])
  · intro q
    obtain ⟨e, he, hf⟩ := List.mem_filterMap.mp q
    exact mine e (List.mem_cons_of_mem _ he) hf
theorem Cau.name (c : Cau X pins B s0 a cls d σ H s) {x : Str} {p : Pos} {v : Value} {Q E : Value → Shared → Prop} (hx : Names X x v) (q : Q v s) : wpAny (model X.prog X.w) (X.A.mark (some (.ref a))) (eval (.Name x p) X.env) Q E s := by
  obtain ⟨oe, vs, _, _, _, I⟩ := c.within
  rcases hx with ⟨g, nd, m | ⟨m, bv, nn⟩⟩
  · exact ld_glob I g m q nd
  · exact ld_blt I g m bv q nn nd
/-- a clause is asked -/
theorem Cau.ask (c : Cau X pins B s0 a cls d σ H s) {x : Str} {p q : Pos} {v : Value} {nm : Option Str} {bs : List Stmt} {hds : List ExceptHandler} {k : Bool} {Q : Flow → Shared → Prop} (hx : Names X x v) (hk : PySem.W.exmOne X.K cls v = some k)
    (no : k = false → wpAny (model X.prog X.w) X.A (handleBy (.ref a) X.env hds) Q X.xe s)
    (yes : k = true → codeAny (model X.prog X.w) (X.A.mark (some (.ref a))) (.handlers (.ref a) [.ExceptHandler none nm bs q] X.env) (fun r s2 => match r with
      | .ok f => (match nm with
        | none => Q f s2
        | some n => wpAny (model X.prog X.w) X.A (do bindName X.env n .none; unbindBehindTheSuite X.env n q) (fun _ s3 => Q f s3) X.xe s2)
      | .error y => cameBackBy (model X.prog X.w) X.A X.env X.xe y s2) s) :
    wpAny (model X.prog X.w) X.A (handleBy (.ref a) X.env (.ExceptHandler (some (.Name x p)) nm bs q :: hds)) Q X.xe s := by
  obtain ⟨oe, _, e1, e2, _⟩ := c.fly.there
  have ty : PySem.W.Looks (model X.prog X.w) s.heap (typeOf (.ref a)) cls := fun A Q E u k' h => wpAny_typeOf_ref (k' _ _ e1) (by rw [e2.1]; exact h)
  refine wpAny_handleBy_cons (codeAny_handlers_test (c.name hx ?_)) nofun
  refine (PySem.W.exm_one (M := model X.prog X.w) c.here.kIn ty hk).here ?_
  cases k
  · exact no rfl
  · exact yes rfl
theorem sp_unsuite {D : Ends} {q : Addr × Obj} {pn : List (Addr × Obj)} (ok : X.Ok) : ∀ {f : Flow} {s : Shared}, SP (X.suite a (q :: (X.pn ++ pins))) pn D f s → SP X pins D f s
  | .next, _, ⟨_, _, I, w⟩ => ⟨_, _, I.unsuite ok, w⟩
  | .brk, _, ⟨_, _, I, w⟩ => ⟨_, _, I.unsuite ok, w⟩
  | .cont, _, ⟨_, _, I, w⟩ => ⟨_, _, I.unsuite ok, w⟩
  | .ret _, _, ⟨_, _, _, I, r, w⟩ => ⟨_, _, _, I.unsuite ok, r, w⟩
/-- .. the name going -/
theorem sp_ungo {D : Ends} {i : Nat} {n : Str} {pos : Pos} (hn : X.N.Nodup) (hN : X.N[i]? = some n) (hl : X.env.kindOf n = some .local) : ∀ {f : Flow} {s : Shared}, SP X pins (ungo i D) f s →
    wpAny (model X.prog X.w) X.A (do bindName X.env n .none; unbindBehindTheSuite X.env n pos) (fun _ s' => SP X pins D f s') X.xe s
  | .next, _, ⟨_, _, I, w⟩ => gone_ok I hn hN hl fun _ J => ⟨_, _, J, w⟩
  | .brk, _, ⟨_, _, I, w⟩ => gone_ok I hn hN hl fun _ J => ⟨_, _, J, w⟩
  | .cont, _, ⟨_, _, I, w⟩ => gone_ok I hn hN hl fun _ J => ⟨_, _, J, w⟩
  | .ret _, _, ⟨_, _, _, I, r, w⟩ => gone_ok I hn hN hl fun _ J => ⟨_, _, _, J, r, w⟩
/-- no clause is left: the error goes on -/
theorem Cau.out (c : Cau X pins B s0 a cls d σ H s) {Wo : WX} {Q : Flow → Shared → Prop} (tk : Takes X Wo) (w : Wo cls d σ H) : wpAny (model X.prog X.w) X.A (handleBy (.ref a) X.env []) Q X.xe s := by
  obtain ⟨_, _, _, oe, vs, T, oT, ts', e1, e2, e3, e4, _⟩ := id c.fly
  refine wpAny_handleBy_nil ?_
  unfold PySem.passOn
  refine wpAny_bind (wpAny_field e1 e3 e4 ?_)
  rw [if_neg (by simp)]
  have go : wpAny (model X.prog X.w) X.A (setFlight (.ref a) X.env.frame) (fun _ s2 => wpAny (model X.prog X.w) X.A (throw (.ref a) : Sem Flow) Q X.xe s2) X.xe s := by
    rw [c.fr]
    refine HandSPX.setFlight_upZ c.fly fun h2 hh u2 => wpAny_throw (tk _ _ ⟨a, B, s0, pins, σ, H, cls, d, rfl, c.inv, c.nb, c.up.trans u2, ?_, c.new, c.os, c.gens, w⟩)
    rw [c.st]
    exact .inr (.inr hh)
  first
    | exact wpAny_bind (wpAny_pure (wpAny_bind go))
    | exact wpAny_bind go
/-- the clauses, one behind the other -/
theorem Cau.handle {Wo : WX} {D : Ends} {f : Bool} {hds : List ExceptHandler} {l : List (Value × Go)} (hh : Clauses X f hds l) : (f = true ∧ Takes X Wo) ∨ (∀ cls d σ H, ¬ Wo cls d σ H) → Cau X pins B s0 a cls d σ H s → wCl X.K Wo D l cls d σ H →
    wpAny (model X.prog X.w) X.A (handleBy (.ref a) X.env hds) (SP X pins D) X.xe s := by
  induction hh with
  | none =>
    intro tk c w
    rcases tk with ⟨_, tk⟩ | no
    · exact c.out tk w
    · exact (no _ _ _ _ w).elim
  | rest =>
    intro tk c w
    rcases tk with ⟨q, _⟩ | no
    · cases q
    · exact (no _ _ _ _ w).elim
  | past hc r ih =>
    intro tk c w
    simp only [wCl] at w
    split at w
    · rename_i q; cases q
    · rename_i q; cases q
    · rename_i e
      exact c.ask hc e (fun _ => ih tk c w) nofun
    · exact w.elim
  | suite hc su r ih =>
    intro tk c w
    simp only [wCl] at w
    split at w
    · rename_i e q
      cases q
      refine c.ask hc e nofun fun _ => codeAny_handlers_suite (HandSPX.lands_againZ c.fly fun h f2 u2 => ?_)
      obtain ⟨oe, vs, _, z, dd, I⟩ := (c.hop f2 u2).within
      exact wpAny_mono ((su a oe cls d (X.pn ++ pins) z ⟨vs, dd⟩).run [] _ _ _ _ I (w a c.new)) (fun f s6 hs => sp_unsuite c.ok hs) fun _ _ q => q.elim
    · rename_i q; cases q
    · rename_i e
      exact c.ask hc e (fun _ => ih tk c w) nofun
    · exact w.elim
  | named hc hN hn hl su r ih =>
    intro tk c w
    simp only [wCl] at w
    split at w
    · rename_i q; cases q
    · rename_i e q
      cases q
      refine c.ask hc e nofun fun _ => codeAny_handlers_suite_as (HandSPX.lands_againZ c.fly fun h f2 u2 => ?_)
      obtain ⟨oe, vs, _, z, dd, I⟩ := (c.hop f2 u2).within
      refine store_ok (X := X.suite a ((a, oe) :: (X.pn ++ pins))) (v := .ref a) I hn hN (.inl hl) rfl (fun s5 I5 => ?_) (.inr hl)
      exact wpAny_mono ((su a oe cls d (X.pn ++ pins) z ⟨vs, dd⟩).run [] _ _ _ _ I5 (w a c.new)) (fun f s6 hs => sp_ungo hn hN hl (sp_unsuite c.ok hs)) fun _ _ q => q.elim
    · rename_i e
      exact c.ask hc e (fun _ => ih tk c w) nofun
    · exact w.elim
end
section
variable {X : Cx} {body : List Stmt} {h0 : ExceptHandler} {hds : List ExceptHandler} {l : List (Value × Go)} {pos : Pos} {tb : WX → TS} {Wo : WX}
theorem sp_untry {pins pn : List (Addr × Obj)} {xe : Value → Shared → Prop} {D : Ends} (ok : X.Ok) : ∀ {f : Flow} {s : Shared}, SP (X.tr (X.pn ++ pins) xe) pn D f s → SP X pins D f s
  | .next, _, ⟨_, _, I, w⟩ => ⟨_, _, I.ofTry ok, w⟩
  | .brk, _, ⟨_, _, I, w⟩ => ⟨_, _, I.ofTry ok, w⟩
  | .cont, _, ⟨_, _, I, w⟩ => ⟨_, _, I.ofTry ok, w⟩
  | .ret _, _, ⟨_, _, _, I, r, w⟩ => ⟨_, _, _, I.ofTry ok, r, w⟩
theorem ps_clauses {full : Bool} (st : X.stack = X.env :: X.outer) (fr : X.env.frame = some X.env.locals) (tk : (full = true ∧ Takes X Wo) ∨ (∀ cls d σ H, ¬ Wo cls d σ H))
    (hb : ∀ (W : WX) (pn : List (Addr × Obj)) (xe : Value → Shared → Prop), Takes (X.tr pn xe) W → PassesOwn (model X.prog X.w) X.A X.env xe → PSs (X.tr pn xe) body (tb W))
    (hh : Clauses X full (h0 :: hds) l) : PS X (.Try body (h0 :: hds) [] [] pos) (fun D σ H => tb (wCl X.K Wo D l) D σ H) := by
  refine ⟨fun pins s σ H D I h => wpAny_Try_except ?_⟩
  have frs' : X.A.frames = some (X.env :: X.outer) := I.ok.frames.trans (congrArg some st)
  have caught : ∀ xe u s', XE (X.tr (X.pn ++ pins) xe) (wCl X.K Wo D l) u s' → wpAny (model X.prog X.w) X.A (noteFrame u X.env) (fun _ s2 => wpAny (model X.prog X.w) X.A (setFlight u none) (fun _ s3 => wpAny (model X.prog X.w) X.A (handleBy u X.env (h0 :: hds)) (SP X pins D) X.xe s3) X.xe s2) X.xe s' := by
    rintro xe u s' ⟨a, B, sI, pn', σ', H', cls, d, rfl, J, nb, up, sky, new, os, gens, w⟩
    refine Sky.land Zc.steady frs' fr (st ▸ sky) fun h f u2 => ?_
    exact Cau.handle (B := B) (s0 := sI) hh tk ⟨I.ok, fr, st, J.ofTry I.ok, nb, up.trans u2, os, gens, f, new⟩ w
  refine wpAny_mono ((hb (wCl X.K Wo D l) (X.pn ++ pins) (fun u s' => wpAny (model X.prog X.w) X.A (noteFrame u X.env) (fun _ s2 => wpAny (model X.prog X.w) X.A (setFlight u none) (fun _ s3 => wpAny (model X.prog X.w) X.A (handleBy u X.env (h0 :: hds)) (SP X pins D) X.xe s3) X.xe s2) X.xe s')
    (fun u s' x => caught _ u s' x) PassesOwn.looking).run [] s σ H D (I.toTry _) h) (fun f s1 hs => ?_) fun _ _ q => q
  have done := sp_untry I.ok hs
  cases f with
  | next => exact wpAny_execs_nil done
  | _ => exact done
end
/-- the clauses of a teller: the class, the text (none: a clause that is passed) -/
inductive TellHs (mg : Str → Option Value) (sg : Scope) : List ExceptHandler → List (Value × Option (List Nat)) → Prop
  | nil {hds : List ExceptHandler} : TellHs mg sg hds []
  | ret {e z : Str} {c : Value} {t : List Nat} {j : Nat} {p4 p5 p6 p7 : Pos} {hds : List ExceptHandler} {hs : List (Value × Option (List Nat))} (h1 : sg.names.lookup e = some .globalImplicit) (h2 : mg e = some c) (h3 : (e == ("__debug__" : Str)) = false) (h4 : z = strOf t)
      (r : TellHs mg sg hds hs) : TellHs mg sg (.ExceptHandler (some (.Name e p4)) none [.Return (some (.Constant (.str z) j p5)) p6] p7 :: hds) ((c, some t) :: hs)
  | skip {e : Str} {c : Value} {nm : Option Str} {suite : List Stmt} {p4 p7 : Pos} {hds : List ExceptHandler} {hs : List (Value × Option (List Nat))} (h1 : sg.names.lookup e = some .globalImplicit) (h2 : mg e = some c) (h3 : (e == ("__debug__" : Str)) = false)
      (r : TellHs mg sg hds hs) : TellHs mg sg (.ExceptHandler (some (.Name e p4)) nm suite p7 :: hds) ((c, none) :: hs)
/-- what is told of an error of this class -/
def tellOf (K : PySem.W.Frag) (cls : Value) : List (Value × Option (List Nat)) → Option (List Nat)
  | [] => none
  | (c, o) :: r => match PySem.W.exmOne K cls c with
    | some true => o
    | some false => tellOf K cls r
    | none => none
def wTl (K : PySem.W.Frag) (Q : VK) (cls : Value) (H : Hp) : List (Value × Option (List Nat)) → Prop
  | [] => False
  | (c, o) :: r => ∃ b, PySem.W.exmOne K cls c = some b ∧ (b = true → ∃ t, o = some t ∧ Q (.str (strOf t)) H) ∧ (b = false → wTl K Q cls H r)
theorem tell_w {K : PySem.W.Frag} {Q : VK} {cls : Value} {H : Hp} {t : List Nat} : ∀ {hs : List (Value × Option (List Nat))}, tellOf K cls hs = some t → Q (.str (strOf t)) H → wTl K Q cls H hs
  | [], h, _ => by simp [tellOf] at h
  | (c, o) :: r, h, q => by
    simp only [tellOf] at h
    split at h
    · rename_i e
      refine ⟨true, e, fun _ => ⟨t, h, q⟩, ?_⟩
      intro z; cases z
    · rename_i e
      refine ⟨false, e, ?_, fun _ => tell_w h q⟩
      intro z; cases z
    · cases h
def TTell (K : PySem.W.Frag) (hs : List (Value × Option (List Nat))) : (XK → Hp → VK → Prop) → Hp → VK → Prop := fun tl H Q =>
  tl (fun cls _ H' => wTl K Q cls H' hs) H (fun _ H' => Q (.str (strOf [])) H')
def tsOf : Value × Option (List Nat) → Value × Go
  | (c, some t) => (c, .suite fun _ _ _ => tRet (tC (.str (strOf t))))
  | (c, none) => (c, .past)
section
variable {X : Cx}
theorem hds_of (Y : Cx) {sg : Scope} (hY : Y.mg = X.mg) (hs' : ∀ e, sg.names.lookup e = some .globalImplicit → Gl Y e) : ∀ {hds : List ExceptHandler} {hs : List (Value × Option (List Nat))}, TellHs X.mg sg hds hs → Clauses Y false hds (hs.map tsOf)
  | _, _, .nil => .rest
  | _, _, .ret h1 h2 h3 h4 r => by
    subst h4
    exact .suite ⟨hs' _ h1, h3, .inl (by rw [hY]; exact h2)⟩ (fun a oe cls d pn _ _ => pss_one (ps_ret pe_str)) (hds_of Y hY hs' r)
  | _, _, .skip h1 h2 h3 r => .past ⟨hs' _ h1, h3, .inl (by rw [hY]; exact h2)⟩ (hds_of Y hY hs' r)
theorem many_of {K : PySem.W.Frag} {D : Ends} {cls : Value} {d : Option Addr} {σ : L2.St} {H : Hp} : ∀ {hs : List (Value × Option (List Nat))}, wTl K D.rt cls H hs → wCl K W0 D (hs.map tsOf) cls d σ H
  | [], h => h
  | (c, some t) :: r, h => by
    obtain ⟨b, e, h1, h2⟩ := h
    simp only [List.map_cons, tsOf, wCl, e]
    cases b with
    | true =>
      intro a _
      obtain ⟨t', et, q⟩ := h1 rfl
      cases et
      exact q
    | false => exact many_of (h2 rfl)
  | (c, none) :: r, h => by
    obtain ⟨b, e, h1, h2⟩ := h
    simp only [List.map_cons, tsOf, wCl, e]
    cases b with
    | true =>
      obtain ⟨t', et, q⟩ := h1 rfl
      cases et
    | false => exact many_of (h2 rfl)
theorem tell_gives {Ng : List Str} {x a q r0 : Str} {sg : Scope} {g : Addr} {cdg : Value} {j : Nat} {p1 p2 p3 p5 p6 p8 : Pos} {h₀ : ExceptHandler} {hds : List ExceptHandler} {hs : List (Value × Option (List Nat))} (hh : TellHs X.mg sg (h₀ :: hds) hs) (er : r0 = strOf []) (h0 : ∀ f : Addr, (L2.start Ng [V.ref f])[0]? = some (some (V.ref f))) :
    GivesTo X Ng x sg g cdg [.Try [.Expr (.Call (.Name a p1) [] [] p2) p3] (h₀ :: hds) [] [] p8, .Return (some (.Constant (.str r0) j p5)) p6] a q (TTell X.K hs) := by
  subst er
  intro f c' s H Q tl act hc h
  refine ⟨_, pss_cons (ps_clauses (Wo := W0) (X := (cxOf C8.CX0 X.prog X.w X.K X.mg X.base Ng x sg g cdg X.A X.stack s H C8.E0).nox) (l := hs.map tsOf)
      (tb := fun W D σ H => ∃ Ech : XK, (∀ cls d σ' H', Ech cls d H' → W cls d σ' H') ∧ σ[0]? = some (some (.ref f)) ∧ H c' = some (CodeO c' q) ∧ tl Ech H fun _ H1 => D.nx σ H1)
      rfl rfl (.inr fun _ _ _ _ q => q) (fun W pn xe tk _ => ?_) (hds_of _ rfl (fun e he => he) hh)) (pss_one (ps_ret pe_str)), ?_⟩
  · refine ⟨fun pins s' σ H' D I h' => ?_⟩
    obtain ⟨Ech, hW, h1, h2, h3⟩ := h'
    have hp := act W pn xe Ech p1 p2 tk hW
    have hq := pss_one (ps_expr (pos := p3) hp rfl)
    exact hq.run pins s' σ H' D I ⟨h1, h2, h3⟩
  · exact ⟨fun cls _ H' => wTl X.K Q cls H' hs, fun cls d σ' H' w => many_of w, h0 f, hc, h⟩
end
/-- a teller of the text -/
structure TellK (K : PySem.W.Frag) (mg : Str → Option Value) (C : Cn) (x : Str) (row : List (Option (List Nat))) : Prop where
  ex : ∃ (g : Addr) (pg : Arguments) (bg : List Stmt) (sg : Scope) (kV doc pm cdv ct oc : Value) (an od : Option Addr) (osl : Array (Option Value)) (Ng : List Str) (a r0 : Str) (h₀ : ExceptHandler) (hds : List ExceptHandler) (hs : List (Value × Option (List Nat))) (p1 p2 p3 p5 p6 p8 : Pos) (j : Nat),
    mg x = some (.ref g) ∧ PySem.W.keepIn K (.ref g) = true ∧ K.lookup g = some ⟨oc, od, .func (PySem.W.fnOf x x pg bg sg .none kV doc pm an cdv ct), osl⟩ ∧ PySem.W.codeIn K cdv x = true ∧ L2.Binds K (PySem.W.fnOf x x pg bg sg .none kV doc pm an cdv ct) [a] [] ∧
    FnScope Ng [a] sg ∧ Ng[0]? = some a ∧ Vis sg a ∧ (a == ("__debug__" : Str)) = false ∧ (a == ("__classdict__" : Str)) = false ∧
    bg = [.Try [.Expr (.Call (.Name a p1) [] [] p2) p3] (h₀ :: hds) [] [] p8, .Return (some (.Constant (.str r0) j p5)) p6] ∧ r0 = strOf [] ∧ TellHs mg sg (h₀ :: hds) hs ∧
    ∀ (c : Nat) (t : List Nat) (ad : Addr), row[c]? = some (some t) → C.ca c = some ad → tellOf K (.ref ad) hs = some t ∧ okS t
end G

set_option Elab.async false
set_option linter.all false
set_option autoImplicit false
set_option maxRecDepth 100000
set_option maxHeartbeats 2000000
/-! G6: results, contexts, names, small expressions. -/
namespace G
open PySem PySem.Spec PyProof.Rows L2
/-- what is wanted of a result -/
def ResG {α β : Type} (C : Cn) (Rl : List Addr → Hp → α → β → Prop) (ρ : List Addr) (H : Hp) (r : R α) (Q : β → Hp → Prop) (E : XK) : Prop :=
  match r with
  | .ok a s => ∀ ρ' H' v, Gr ρ H ρ' H' → SR C ρ' H' s → Rl ρ' H' a v → Q v H'
  | .exc c _ s => ∀ ρ' H' a d, Gr ρ H ρ' H' → SR C ρ' H' s → C.ca c = some a → E (.ref a) d H'
  | .err => False
section
variable {C : Cn} {ρ ρ' : List Addr} {H H' : Hp} {α β γ δ : Type} {Rl : List Addr → Hp → α → β → Prop} {Rl2 : List Addr → Hp → γ → δ → Prop}
theorem ResG.mono {r : R α} {Q : β → Hp → Prop} {E : XK} (h : ResG C Rl ρ H r Q E) (g : Gr ρ H ρ' H') : ResG C Rl ρ' H' r Q E := by
  cases r with
  | ok a s => exact fun ρ2 H2 v g2 S r => h ρ2 H2 v (g.trans g2) S r
  | exc c l s => exact fun ρ2 H2 a d g2 S e => h ρ2 H2 a d (g.trans g2) S e
  | err => exact h
theorem ResG.imp {r : R α} {Q Q' : β → Hp → Prop} {E : XK} (h : ResG C Rl ρ H r Q E) (k : ∀ v H, Q v H → Q' v H) : ResG C Rl ρ H r Q' E := by
  cases r with
  | ok a s => exact fun ρ2 H2 v g2 S r => k _ _ (h ρ2 H2 v g2 S r)
  | exc c l s => exact h
  | err => exact h
/-- one behind the other -/
theorem ResG.bnd {m : M α} {f : α → M γ} {s : ST} {Q : δ → Hp → Prop} {E : XK} (h : ResG C Rl2 ρ H (G.bnd m f s) Q E) :
    ResG C Rl ρ H (m s) (fun v H1 => ∃ ρ1 s1 a, Gr ρ H ρ1 H1 ∧ SR C ρ1 H1 s1 ∧ Rl ρ1 H1 a v ∧ ResG C Rl2 ρ1 H1 (f a s1) Q E) E := by
  unfold G.bnd at h
  cases e : m s with
  | ok a s1 =>
    rw [e] at h
    exact fun ρ1 H1 v g S r => ⟨ρ1, s1, a, g, S, r, h.mono g⟩
  | exc c l s1 => rw [e] at h; exact h
  | err => rw [e] at h; exact h
theorem ResG.opt {o : Option α} {s : ST} {Q : β → Hp → Prop} {E : XK} (h : ResG C Rl ρ H (G.opt o s) Q E) : ∃ a, o = some a ∧ ResG C Rl ρ H (.ok a s) Q E := by
  cases o with
  | none => exact h.elim
  | some a => exact ⟨a, rfl, h⟩
theorem ResG.rd {f : ST → Option α} {s : ST} {Q : β → Hp → Prop} {E : XK} (h : ResG C Rl ρ H (G.rd f s) Q E) : ∃ a, f s = some a ∧ ResG C Rl ρ H (.ok a s) Q E := by
  unfold G.rd at h
  cases e : f s with
  | none => rw [e] at h; exact h.elim
  | some a => rw [e] at h; exact ⟨a, rfl, h⟩
/-- a step that asks nothing of the heap -/
theorem ResG.pureO {o : Option γ} {f : γ → M α} {s : ST} {Q : β → Hp → Prop} {E : XK} (h : ResG C Rl ρ H (G.bnd (G.opt o) f s) Q E) : ∃ a, o = some a ∧ ResG C Rl ρ H (f a s) Q E := by
  cases o with
  | none => exact h.elim
  | some a => exact ⟨a, rfl, h⟩
theorem ResG.pureR {g : ST → Option γ} {f : γ → M α} {s : ST} {Q : β → Hp → Prop} {E : XK} (h : ResG C Rl ρ H (G.bnd (G.rd g) f s) Q E) : ∃ a, g s = some a ∧ ResG C Rl ρ H (f a s) Q E := by
  unfold G.bnd G.rd at h
  cases e : g s with
  | none => rw [e] at h; exact h.elim
  | some a => rw [e] at h; exact ⟨a, rfl, h⟩
theorem ResG.here {a : α} {v : β} {s : ST} {Q : β → Hp → Prop} {E : XK} (h : ResG C Rl ρ H (.ok a s) Q E) (S : SR C ρ H s) (r : Rl ρ H a v) : Q v H := h ρ H v Gr.refl S r
end
/-- the frame's slots -/
structure EnvR (C : Cn) (ρ : List Addr) (H : Hp) (env : Env) (σ : L2.St) : Prop where
  len : env.length = σ.length
  at_ : ∀ (i : Nat) (w : W), env[i]? = some (some w) → ∃ v, σ[i]? = some (some v) ∧ Rep C ρ H w v
section
variable {C : Cn} {ρ ρ' : List Addr} {H H' : Hp} {env : Env} {σ : L2.St}
theorem EnvR.mono (e : EnvR C ρ H env σ) (g : Gr ρ H ρ' H') : EnvR C ρ' H' env σ := ⟨e.len, fun i w h => by
  obtain ⟨v, h1, r⟩ := e.at_ i w h
  exact ⟨v, h1, r.mono g⟩⟩
theorem EnvR.set (e : EnvR C ρ H env σ) {i : Nat} {w : W} {v : V} (r : Rep C ρ H w v) : EnvR C ρ H (env.set i (some w)) (σ.set i (some v)) := ⟨by simp [e.len], fun j u h => by
  by_cases hj : i = j
  · subst hj
    by_cases hl : i < env.length
    · rw [List.getElem?_set_self hl] at h
      cases h
      exact ⟨v, List.getElem?_set_self (by rw [← e.len]; exact hl), r⟩
    · rw [List.getElem?_eq_none (by simpa using hl)] at h
      cases h
  · rw [List.getElem?_set_ne hj] at h
    obtain ⟨x, h1, h2⟩ := e.at_ j u h
    exact ⟨x, by rw [List.getElem?_set_ne hj]; exact h1, h2⟩⟩
theorem EnvR.wipe (e : EnvR C ρ H env σ) : ∀ is : List Nat, EnvR C ρ H (wipes env is) (wipe σ is)
  | [] => e
  | i :: is => by
    have ih := EnvR.wipe e is
    refine ⟨by simp only [wipes, L2.wipe, List.length_set]; exact ih.len, fun j u h => ?_⟩
    simp only [wipes] at h
    simp only [L2.wipe]
    by_cases hj : i = j
    · subst hj
      by_cases hl : i < (wipes env is).length
      · rw [List.getElem?_set_self hl] at h; cases h
      · rw [List.getElem?_eq_none (by simpa using hl)] at h; cases h
    · rw [List.getElem?_set_ne hj] at h
      obtain ⟨x, h1, h2⟩ := ih.at_ j u h
      exact ⟨x, by rw [List.getElem?_set_ne hj]; exact h1, h2⟩
end
abbrev RepR (C : Cn) : List Addr → Hp → W → V → Prop := fun ρ H w v => Rep C ρ H w v
abbrev RepsR (C : Cn) : List Addr → Hp → List W → List V → Prop := fun ρ H w v => Reps C ρ H w v
def BoolR : List Addr → Hp → Bool → Bool → Prop := fun _ _ a b => a = b
section
variable (C : Cn) (P : Pg) (call : Nat → List W → M W) (Wx : WX)
def tE (ir : E) : TE := fun σ H Q => ∃ ρ s env, EnvR C ρ H env σ ∧ SR C ρ H s ∧ ResG C (RepR C) ρ H (evE P call ir env s) Q (WE Wx σ)
def tA (ir : E) : TA := fun σ H Q => ∃ ρ s env, EnvR C ρ H env σ ∧ SR C ρ H s ∧ ResG C (RepsR C) ρ H (evA P call ir env s) Q (WE Wx σ)
/-- a test -/
def asB (m : M W) : M Bool := G.bnd m fun x => match x with | .bl b => ret b | _ => fail
def tT (ir : E) : TT := fun σ H Q => ∃ ρ s env, EnvR C ρ H env σ ∧ SR C ρ H s ∧ ResG C BoolR ρ H (asB (evE P call ir env) s) Q (WE Wx σ)
end
/-- a def's promise -/
def spD (C : Cn) (P : Pg) (d n : Nat) : Sp := fun vs H Q E => ∃ xi ρ s args, SR { C with xi := xi } ρ H s ∧ Reps { C with xi := xi } ρ H args vs ∧ ResG { C with xi := xi } (RepR { C with xi := xi }) ρ H (callD P d n args s) Q E
/-- the names of a program: defs and constants of the top, in the order of their numbers -/
structure Nm where
  fns : List Str
  cns : List Str
  tl : List Str
def Nm.no (N : Nm) : Nm := { N with tl := [] }
def bnames : List Str := ["len", "abs", "int", "list", "tuple", "max", "min", "sum", "all", "any", "isinstance", "range", "enumerate", "zip", "str", "bool", "sorted", "dict", "set"]
/-- where a body stands -/
structure Ct (X : Cx) (C : Cn) (P : Pg) (Nn : Nm) (d : Nat) (Wx : WX) : Prop where
  hK : X.K = C.K
  nd : X.N.Nodup
  calm : X.calm = true
  room : Room d X.A
  tk : Takes X Wx
  blt : ∀ x ∈ bnames, X.mg x = none
  fn : ∀ (k : Nat), k ≤ d → ∀ (n : Nat) (x : Str), Nn.fns[n]? = some x → ∃ f fd ps, C.fa n = some f ∧ X.mg x = some (.ref f) ∧ PySem.W.keepIn X.K (.ref f) = true ∧ Binds X.K fd ps [] ∧ FnOk X.prog X.w X.K X.mg X.base (L2.CX X.prog X.w) k f fd ps (spD C P k n)
  cn : ∀ (n : Nat) (x : Str), Nn.cns[n]? = some x → ∃ u v w, X.mg x = some u ∧ RelV v u ∧ P.consts[n]? = some w ∧ ∀ xi ρ H, Rep { C with xi := xi } ρ H w v
  lm : ∀ (n : Nat) (x : Str), Nn.tl[n]? = some x → (∃ row, P.told[n]? = some row ∧ TellK X.K X.mg C x row) ∧
    ∃ c Pt, X.env.code = .ref c ∧ LamX.TabB X.base X.mg c Pt ∧ (Pt, X.env.qual ++ "<lambda>") ∈ C.T ∧ ∀ p ∈ C.T, p.1 = Pt → p.2 = X.env.qual ++ "<lambda>"
/-- the scope as the checker reads it -/
structure Sc (X : Cx) (sc : Scope) (cl : Bool) : Prop where
  cf : ∀ x, sc.names.lookup x = some .cell ∨ sc.names.lookup x = some .free → X.env.scope.names.lookup x = some .cell ∨ X.env.scope.names.lookup x = some .free
  st : ∀ x, (sc.names.lookup x = some .local ∨ (cl = true ∧ sc.names.lookup x = some .cell)) → Loc X.env.scope x ∧ (X.fn x = true ∨ X.env.scope.names.lookup x = some .local)
  vis : ∀ x, sc.names.lookup x = some .local ∨ sc.names.lookup x = some .cell ∨ sc.names.lookup x = some .free → Vis X.env.scope x
  gl : ∀ x, sc.names.lookup x = some .globalImplicit → Gl X x
  loc : ∀ x, sc.names.lookup x = some .local → X.env.scope.names.lookup x = some .local
section
variable {X : Cx} {C : Cn} {P : Pg} {Nn : Nm} {d : Nat} {Wx : WX}
theorem _root_.L2.PE.imp {e : Expr} {t t' : TE} (h : PE X e t) (k : ∀ σ H Q, t' σ H Q → t σ H Q) : PE X e t' := ⟨fun pins s σ H Q I q => h.run pins s σ H Q I (k σ H Q q)⟩
theorem _root_.L2.PT.imp {e : Expr} {t t' : TT} (h : PT X e t) (k : ∀ σ H Q, t' σ H Q → t σ H Q) : PT X e t' := ⟨fun pins s σ H Q I q => h.run pins s σ H Q I (k σ H Q q)⟩
theorem _root_.L2.PW.imp {e : Expr} {t t' : TT} (h : PW X e t) (k : ∀ σ H Q, t' σ H Q → t σ H Q) : PW X e t' := ⟨fun wh pins s σ H Q I q => h.run wh pins s σ H Q I (k σ H Q q)⟩
theorem _root_.L2.PA.imp {es : List Expr} {t t' : TA} (h : PA X es t) (k : ∀ σ H Q, t' σ H Q → t σ H Q) : PA X es t' := ⟨fun pos pins s σ H Q I q => h.run pos pins s σ H Q I (k σ H Q q)⟩
variable {call : Nat → List W → M W}
/-- an expression ahead of a rest -/
theorem tE.bnd {a : E} {γ δ : Type} {Rl2 : List Addr → Hp → γ → δ → Prop} {f : W → M γ} {ρ : List Addr} {H : Hp} {s : ST} {env : Env} {σ : L2.St} {Q : δ → Hp → Prop} {E : XK} {K : V → Hp → Prop} (eR : EnvR C ρ H env σ) (S : SR C ρ H s)
    (hE : E = WE Wx σ) (h : ResG C Rl2 ρ H (G.bnd (evE P call a env) f s) Q E)
    (k : ∀ ρ1 H1 s1 x v, Gr ρ H ρ1 H1 → EnvR C ρ1 H1 env σ → SR C ρ1 H1 s1 → Rep C ρ1 H1 x v → ResG C Rl2 ρ1 H1 (f x s1) Q E → K v H1) : tE C P call Wx a σ H K := by
  subst hE
  refine ⟨ρ, s, env, eR, S, ?_⟩
  refine (ResG.bnd (Rl := RepR C) h).imp fun v H1 ⟨ρ1, s1, x, g, S1, r, q⟩ => k ρ1 H1 s1 x v g (eR.mono g) S1 r q
theorem tA.bnd {a : E} {γ δ : Type} {Rl2 : List Addr → Hp → γ → δ → Prop} {f : List W → M γ} {ρ : List Addr} {H : Hp} {s : ST} {env : Env} {σ : L2.St} {Q : δ → Hp → Prop} {E : XK} {K : List V → Hp → Prop} (eR : EnvR C ρ H env σ) (S : SR C ρ H s)
    (hE : E = WE Wx σ) (h : ResG C Rl2 ρ H (G.bnd (evA P call a env) f s) Q E)
    (k : ∀ ρ1 H1 s1 x v, Gr ρ H ρ1 H1 → EnvR C ρ1 H1 env σ → SR C ρ1 H1 s1 → Reps C ρ1 H1 x v → ResG C Rl2 ρ1 H1 (f x s1) Q E → K v H1) : tA C P call Wx a σ H K := by
  subst hE
  refine ⟨ρ, s, env, eR, S, ?_⟩
  refine (ResG.bnd (Rl := RepsR C) h).imp fun v H1 ⟨ρ1, s1, x, g, S1, r, q⟩ => k ρ1 H1 s1 x v g (eR.mono g) S1 r q
/-! each construct -/
theorem s_var {i : Nat} {x : Str} {pos : Pos} (hN : X.N[i]? = some x) (hv : Vis X.env.scope x) (hd : (x == ("__debug__" : Str)) = false) (hcd : (x == ("__classdict__" : Str)) = false) : PE X (.Name x pos) (tE C P call Wx (.var i)) := by
  refine (pe_var hN hv hd hcd).imp fun σ H Q ⟨ρ, s, env, eR, S, h⟩ => ?_
  simp only [evE] at h
  obtain ⟨w, e, h⟩ := h.opt
  split at e
  · rename_i w' e'
    cases e
    obtain ⟨v, e2, r⟩ := eR.at_ i w e'
    exact ⟨v, e2, h.here S r⟩
  · cases e
theorem s_const {w : W} {v : V} {c : Expr} (hr : ∀ ρ H, Rep C ρ H w v) (hc : PE X c (tC v)) : PE X c (tE C P call Wx (.k w)) := by
  refine hc.imp fun σ H Q ⟨ρ, s, env, eR, S, h⟩ => ?_
  simp only [evE] at h
  exact h.here S (hr ρ H)
theorem s_glob {n : Nat} {x : Str} {pos : Pos} (ct : Ct X C P Nn d Wx) (hn : Nn.cns[n]? = some x) (hg : Gl X x) (hd : (x == ("__debug__" : Str)) = false) : PE X (.Name x pos) (tE C P call Wx (.glob n)) := by
  obtain ⟨u, v, w, e1, r, e2, k⟩ := ct.cn n x hn
  refine (pe_glob hg e1 r hd).imp fun σ H Q ⟨ρ, s, env, eR, S, h⟩ => ?_
  simp only [evE] at h
  obtain ⟨w', e, h⟩ := h.opt
  rw [e2] at e; cases e
  exact h.here S (k C.xi ρ H)
theorem s_bin {op : Bop} {a b : E} {ea eb : Expr} {pos : Pos} (ct : Ct X C P Nn d Wx) (ha : PE X ea (tE C P call Wx a)) (hb : PE X eb (tE C P call Wx b)) : PE X (.BinOp ea (bopO op) eb pos) (tE C P call Wx (.bin op a b)) := by
  refine (pe_op (op_bin ct.hK op) ha hb).imp fun σ H Q ⟨ρ, s, env, eR, S, h⟩ => ?_
  simp only [evE] at h
  refine tE.bnd eR S rfl h fun ρ1 H1 s1 x v g1 eR1 S1 r1 h1 => ?_
  refine tE.bnd eR1 S1 rfl h1 fun ρ2 H2 s2 y u g2 eR2 S2 r2 h2 => ?_
  obtain ⟨w, e, h2⟩ := h2.rd
  exact ⟨ρ2, s2, soft x, soft y, w, S2, Rep.soft _ _ (r1.mono g2), Rep.soft _ _ r2, e, h2⟩
theorem s_neg {a : E} {ea : Expr} {pos : Pos} (ha : PE X ea (tE C P call Wx a)) : PE X (.UnaryOp .USub ea pos) (tE C P call Wx (.neg a)) := by
  refine (pe_un un_neg ha).imp fun σ H Q ⟨ρ, s, env, eR, S, h⟩ => ?_
  simp only [evE] at h
  refine tE.bnd eR S rfl h fun ρ1 H1 s1 x v g1 eR1 S1 r1 h1 => ?_
  cases x <;> try exact h1.elim
  exact ⟨_, r1.int, h1.here S1 Rep.mkI⟩
theorem i_cmp {op : Cop} {a b : E} {σ : L2.St} {H : Hp} {Q : VK} (h : tE C P call Wx (.cmp op a b) σ H Q) : tOp (rCmp C (cmpop op)) (tE C P call Wx a) (tE C P call Wx b) σ H Q := by
  obtain ⟨ρ, s, env, eR, S, h⟩ := h
  simp only [evE] at h
  refine tE.bnd eR S rfl h fun ρ1 H1 s1 x v g1 eR1 S1 r1 h1 => ?_
  refine tE.bnd eR1 S1 rfl h1 fun ρ2 H2 s2 y u g2 eR2 S2 r2 h2 => ?_
  obtain ⟨k, e, h2⟩ := h2.pureR
  exact ⟨ρ2, s2, soft x, soft y, k, S2, Rep.soft _ _ (r1.mono g2), Rep.soft _ _ r2, e, h2.here S2 Rep.mkB⟩
/-- a test's value -/
theorem tT.val {a : E} {σ : L2.St} {H : Hp} {Q : Bool → Hp → Prop} (h : tT C P call Wx a σ H Q) : tE C P call Wx a σ H fun x H' => ∃ k, x = .bl k ∧ Q k H' := by
  obtain ⟨ρ, s, env, eR, S, h⟩ := h
  unfold asB at h
  exact tE.bnd eR S rfl h fun ρ1 H1 s1 x v g1 eR1 S1 r1 h1 => by
    cases x <;> try exact h1.elim
    exact ⟨_, r1.bl, h1.here S1 rfl⟩
theorem s_cmp {op : Cop} {a b : E} {ea eb : Expr} {pos : Pos} (ct : Ct X C P Nn d Wx) (ha : PE X ea (tE C P call Wx a)) (hb : PE X eb (tE C P call Wx b)) (hm : behindInMarks (copO op) eb = false) :
    PE X (.Compare ea [copO op] [eb] pos) (tE C P call Wx (.cmp op a b)) ∧ PT X (.Compare ea [copO op] [eb] pos) (tT C P call Wx (.cmp op a b)) := by
  have hu := ct.room.units
  exact ⟨(pe_cmpR (op_cmp ct.hK hu op) ha hb hm).imp fun σ H Q h => i_cmp h, (pt_cmpR (op_cmp ct.hK hu op) ha hb hm).imp fun σ H Q h => i_cmp h.val⟩
theorem i_chain {op op' : Cop} {a b c : E} {σ : L2.St} {H : Hp} {Q : VK} (h : tE C P call Wx (.chain op op' a b c) σ H Q) : tChain (rCmp C (cmpop op)) (rCmp C (cmpop op')) (tE C P call Wx a) (tE C P call Wx b) (tE C P call Wx c) σ H Q := by
  obtain ⟨ρ, s, env, eR, S, h⟩ := h
  simp only [evE] at h
  refine tE.bnd eR S rfl h fun ρ1 H1 s1 x v g1 eR1 S1 r1 h1 => ?_
  refine tE.bnd eR1 S1 rfl h1 fun ρ2 H2 s2 y u g2 eR2 S2 r2 h2 => ?_
  obtain ⟨k, e, h2⟩ := h2.pureR
  refine ⟨ρ2, s2, soft x, soft y, k, S2, Rep.soft _ _ (r1.mono g2), Rep.soft _ _ r2, e, k, rfl, ?_⟩
  cases k with
  | true =>
    rw [if_pos rfl] at h2 ⊢
    refine tE.bnd eR2 S2 rfl h2 fun ρ3 H3 s3 z w g3 eR3 S3 r3 h3 => ?_
    obtain ⟨k', e', h3⟩ := h3.pureR
    exact ⟨ρ3, s3, soft y, soft z, k', S3, Rep.soft _ _ (r2.mono g3), Rep.soft _ _ r3, e', h3.here S3 Rep.mkB⟩
  | false =>
    rw [if_neg Bool.false_ne_true] at h2 ⊢
    exact h2.here S2 Rep.mkB
theorem s_chain {op op' : Cop} {a b c : E} {ea eb ec : Expr} {pos : Pos} (ct : Ct X C P Nn d Wx) (ha : PE X ea (tE C P call Wx a)) (hb : PE X eb (tE C P call Wx b)) (hc : PE X ec (tE C P call Wx c)) (hm : lastMarks [copO op, copO op'] [eb, ec] = false) :
    PE X (.Compare ea [copO op, copO op'] [eb, ec] pos) (tE C P call Wx (.chain op op' a b c)) ∧ PT X (.Compare ea [copO op, copO op'] [eb, ec] pos) (tT C P call Wx (.chain op op' a b c)) := by
  have hu := ct.room.units
  exact ⟨(pe_chain (op_cmp ct.hK hu op) (op_cmp ct.hK hu op') ha hb hc hm).imp fun σ H Q h => i_chain h, (pt_chain (op_cmp ct.hK hu op) (op_cmp ct.hK hu op') ha hb hc hm).imp fun σ H Q h => i_chain h.val⟩
theorem bnd_assoc {α β γ : Type} (m : M α) (f : α → M β) (g : β → M γ) : G.bnd (G.bnd m f) g = G.bnd m fun x => G.bnd (f x) g := by
  funext s
  unfold G.bnd
  cases m s <;> rfl
/-- a test ahead of a rest -/
theorem tT.bnd {a : E} {γ δ : Type} {Rl2 : List Addr → Hp → γ → δ → Prop} {f : W → M γ} {ρ : List Addr} {H : Hp} {s : ST} {env : Env} {σ : L2.St} {Q : δ → Hp → Prop} {E : XK} {K : Bool → Hp → Prop} (eR : EnvR C ρ H env σ) (S : SR C ρ H s)
    (hE : E = WE Wx σ) (h : ResG C Rl2 ρ H (G.bnd (evE P call a env) f s) Q E) (hf : ∀ x s, (∀ b, x ≠ .bl b) → f x s = .err)
    (k : ∀ ρ1 H1 s1 b, Gr ρ H ρ1 H1 → EnvR C ρ1 H1 env σ → SR C ρ1 H1 s1 → ResG C Rl2 ρ1 H1 (f (.bl b) s1) Q E → K b H1) : tT C P call Wx a σ H K := by
  subst hE
  refine ⟨ρ, s, env, eR, S, ?_⟩
  unfold asB G.bnd
  unfold G.bnd at h
  cases e : evE P call a env s with
  | ok x s1 =>
    rw [e] at h
    have bad : (∀ b, x ≠ .bl b) → False := fun hx => by
      have := hf x s1 hx
      simp only [this] at h
      exact h
    cases x with
    | bl b =>
      intro ρ1 H1 v g S1 r
      have r' : b = v := r
      subst r'
      exact k ρ1 H1 s1 b g (eR.mono g) S1 (ResG.mono h g)
    | _ => exact (bad (fun b q => by cases q)).elim
  | exc c l s1 => rw [e] at h; exact h
  | err => rw [e] at h; exact h
theorem s_and {a b : E} {ea eb : Expr} {rest : List Expr} {pos : Pos} (ha : PE X ea (tE C P call Wx a)) (ha' : PT X ea (tT C P call Wx a)) (hb : PE X (.BoolOp .And (eb :: rest) pos) (tE C P call Wx b)) (hb' : PW X (.BoolOp .And (eb :: rest) pos) (tT C P call Wx b)) :
    PE X (.BoolOp .And (ea :: eb :: rest) pos) (tE C P call Wx (.and a b)) ∧ PW X (.BoolOp .And (ea :: eb :: rest) pos) (tT C P call Wx (.and a b)) := by
  refine ⟨(pe_and ha hb).imp fun σ H Q ⟨ρ, s, env, eR, S, h⟩ => ?_, (pw_and ha' hb').imp fun σ H Q ⟨ρ, s, env, eR, S, h⟩ => ?_⟩
  · simp only [evE] at h
    refine tE.bnd eR S rfl h fun ρ1 H1 s1 x v g1 eR1 S1 r1 h1 => ?_
    cases x <;> try exact h1.elim
    rename_i k
    refine ⟨k, r1.bl, ?_⟩
    cases k with
    | true => rw [if_pos rfl]; exact ⟨ρ1, s1, env, eR1, S1, h1⟩
    | false => rw [if_neg Bool.false_ne_true]; exact h1.here S1 Rep.mkB
  · unfold asB at h
    simp only [evE] at h
    rw [bnd_assoc] at h
    refine tT.bnd eR S rfl h (fun x s hx => ?_) fun ρ1 H1 s1 k g1 eR1 S1 h1 => ?_
    · cases x <;> first | rfl | exact (hx _ rfl).elim
    · cases k with
      | true => rw [if_pos rfl]; exact ⟨ρ1, s1, env, eR1, S1, h1⟩
      | false => rw [if_neg Bool.false_ne_true]; exact h1.here S1 rfl
theorem s_or {a b : E} {ea eb : Expr} {rest : List Expr} {pos : Pos} (ha : PE X ea (tE C P call Wx a)) (ha' : PT X ea (tT C P call Wx a)) (hb : PE X (.BoolOp .Or (eb :: rest) pos) (tE C P call Wx b)) (hb' : PW X (.BoolOp .Or (eb :: rest) pos) (tT C P call Wx b)) :
    PE X (.BoolOp .Or (ea :: eb :: rest) pos) (tE C P call Wx (.or a b)) ∧ PW X (.BoolOp .Or (ea :: eb :: rest) pos) (tT C P call Wx (.or a b)) := by
  refine ⟨(pe_or ha hb).imp fun σ H Q ⟨ρ, s, env, eR, S, h⟩ => ?_, (pw_or ha' hb').imp fun σ H Q ⟨ρ, s, env, eR, S, h⟩ => ?_⟩
  · simp only [evE] at h
    refine tE.bnd eR S rfl h fun ρ1 H1 s1 x v g1 eR1 S1 r1 h1 => ?_
    cases x <;> try exact h1.elim
    rename_i k
    refine ⟨k, r1.bl, ?_⟩
    cases k with
    | true => rw [if_pos rfl]; exact h1.here S1 Rep.mkB
    | false => rw [if_neg Bool.false_ne_true]; exact ⟨ρ1, s1, env, eR1, S1, h1⟩
  · unfold asB at h
    simp only [evE] at h
    rw [bnd_assoc] at h
    refine tT.bnd eR S rfl h (fun x s hx => ?_) fun ρ1 H1 s1 k g1 eR1 S1 h1 => ?_
    · cases x <;> first | rfl | exact (hx _ rfl).elim
    · cases k with
      | true => rw [if_pos rfl]; exact h1.here S1 rfl
      | false => rw [if_neg Bool.false_ne_true]; exact ⟨ρ1, s1, env, eR1, S1, h1⟩
theorem s_not {a : E} {ea : Expr} {pos : Pos} (ha : PE X ea (tE C P call Wx a)) (ha' : PT X ea (tT C P call Wx a)) :
    PE X (.UnaryOp .Not ea pos) (tE C P call Wx (.not a)) ∧ PT X (.UnaryOp .Not ea pos) (tT C P call Wx (.not a)) := by
  refine ⟨(pe_not ha).imp fun σ H Q ⟨ρ, s, env, eR, S, h⟩ => ?_, (pt_not ha').imp fun σ H Q ⟨ρ, s, env, eR, S, h⟩ => ?_⟩
  · simp only [evE] at h
    refine tE.bnd eR S rfl h fun ρ1 H1 s1 x v g1 eR1 S1 r1 h1 => ?_
    cases x <;> try exact h1.elim
    exact ⟨_, r1.bl, h1.here S1 Rep.mkB⟩
  · unfold asB at h
    simp only [evE] at h
    rw [bnd_assoc] at h
    refine tT.bnd eR S rfl h (fun x s hx => ?_) fun ρ1 H1 s1 k g1 eR1 S1 h1 => ?_
    · cases x <;> first | rfl | exact (hx _ rfl).elim
    · exact h1.here S1 rfl
theorem s_ife {c a b : E} {ec ea eb : Expr} {pos : Pos} (hc : PT X ec (tT C P call Wx c)) (ha : PE X ea (tE C P call Wx a)) (hb : PE X eb (tE C P call Wx b)) : PE X (.IfExp ec ea eb pos) (tE C P call Wx (.ife c a b)) := by
  refine (pe_ifExp hc ha hb).imp fun σ H Q ⟨ρ, s, env, eR, S, h⟩ => ?_
  simp only [evE] at h
  refine tT.bnd eR S rfl h (fun x s hx => ?_) fun ρ1 H1 s1 k g1 eR1 S1 h1 => ?_
  · cases x <;> first | rfl | exact (hx _ rfl).elim
  · cases k with
    | true => rw [if_pos rfl]; exact ⟨ρ1, s1, env, eR1, S1, h1⟩
    | false => rw [if_neg Bool.false_ne_true]; exact ⟨ρ1, s1, env, eR1, S1, h1⟩
/-! rows -/
theorem s_nil : PA X [] (tA C P call Wx .nil) := by
  refine pa_nil.imp fun σ H Q ⟨ρ, s, env, eR, S, h⟩ => ?_
  simp only [evA] at h
  exact h.here (v := []) S (by show Reps C ρ H [] []; simp only [Reps])
theorem s_cons {a b : E} {ea : Expr} {es : List Expr} (ha : PE X ea (tE C P call Wx a)) (hb : PA X es (tA C P call Wx b)) (hs : starEach (ea :: es) X.env = (false, eval ea X.env) :: starEach es X.env) : PA X (ea :: es) (tA C P call Wx (.cons a b)) := by
  refine (pa_cons ha hb hs).imp fun σ H Q ⟨ρ, s, env, eR, S, h⟩ => ?_
  simp only [evA] at h
  refine tE.bnd eR S rfl h fun ρ1 H1 s1 x v g1 eR1 S1 r1 h1 => ?_
  refine tA.bnd eR1 S1 rfl h1 fun ρ2 H2 s2 y u g2 eR2 S2 r2 h2 => ?_
  exact h2.here S2 (Reps.mk (r1.mono g2) r2)
theorem ResG.fits {α β : Type} {Rl : List Addr → Hp → α → β → Prop} {ρ : List Addr} {H : Hp} {γ : Type} {m : M (List γ)} {f : List γ → M α} {s : ST} {Q : β → Hp → Prop} {E : XK} (h : ResG C Rl ρ H (G.bnd (G.fits m) f s) Q E) :
    ResG C Rl ρ H (G.bnd m (fun xs => if xs.length ≤ line then f xs else fail) s) Q E := by
  unfold G.fits at h
  rw [bnd_assoc] at h
  have e : (fun xs : List γ => G.bnd (if xs.length ≤ line then ret xs else fail) f) = fun xs => if xs.length ≤ line then f xs else fail := by
    funext xs
    split
    · funext s; rfl
    · funext s; rfl
  rw [e] at h
  exact h
theorem s_tup {l : E} {es : List Expr} {k : Nat} {pos : Pos} (hl : PA X es (tA C P call Wx l)) : PE X (.Tuple es k pos) (tE C P call Wx (.tup l)) := by
  refine (pe_tup hl).imp fun σ H Q ⟨ρ, s, env, eR, S, h⟩ => ?_
  simp only [evE] at h
  refine tA.bnd eR S rfl h.fits fun ρ1 H1 s1 x v g1 eR1 S1 r1 h1 => ?_
  split at h1
  · rename_i hl
    exact ⟨by rw [← r1.length, ← line_eq]; exact hl, OkP.tup (fun ρ' H' v g S r => h1 ρ' H' v g S r) S1 r1⟩
  · exact h1.elim
theorem s_htup {l : E} {es : List Expr} {k : Nat} {pos : Pos} (hl : PA X es (tA C P call Wx l)) : PE X (.Tuple es k pos) (tE C P call Wx (.htup l)) := by
  refine (GN.pe_htup hl).imp fun σ H Q ⟨ρ, s, env, eR, S, h⟩ => ?_
  simp only [evE] at h
  refine tA.bnd eR S rfl h.fits fun ρ1 H1 s1 x v g1 eR1 S1 r1 h1 => ?_
  split at h1
  · rename_i hl
    exact ⟨by rw [← r1.length, ← line_eq]; exact hl, OkP.htup (fun ρ' H' v g S r => h1 ρ' H' v g S r) S1 r1⟩
  · exact h1.elim
theorem s_lst {l : E} {es : List Expr} {pos : Pos} (hl : PA X es (tA C P call Wx l)) : PE X (.List es pos) (tE C P call Wx (.lst l)) := by
  refine (pe_lst hl).imp fun σ H Q ⟨ρ, s, env, eR, S, h⟩ => ?_
  simp only [evE] at h
  refine tA.bnd eR S rfl h.fits fun ρ1 H1 s1 x v g1 eR1 S1 r1 h1 => ?_
  split at h1
  · rename_i hl
    exact ⟨by rw [← r1.length, ← line_eq]; exact hl, OkP.lst (fun ρ' H' v g S r => h1 ρ' H' v g S r) S1 r1⟩
  · exact h1.elim
/-- a new list of the store -/
theorem SR.push {ρ : List Addr} {H : Hp} {s : ST} {p : Addr} {ws : List W} {vs : List V} (S : SR C ρ H s) (hn : H p = none) (r : Reps C ρ H ws vs) :
    Gr ρ H (ρ ++ [p]) (upd H p (.lst vs)) ∧ SR C (ρ ++ [p]) (upd H p (.lst vs)) (s ++ [ws]) ∧ Rep C (ρ ++ [p]) (upd H p (.lst vs)) (.ref s.length) (.ref p) := by
  have g : Gr ρ H (ρ ++ [p]) (upd H p (.lst vs)) := by
    obtain ⟨_, k, l⟩ := Gr.new (ρ := ρ) (o := .lst vs) hn
    exact ⟨⟨[p], rfl, fun q hq => List.mem_singleton.mp hq ▸ Fre.of hn⟩, k, l⟩
  refine ⟨g, ⟨fun q hq => ⟨fun hm => ?_, ?_⟩, tabs_new S.tb hn, by simp [S.len], ?_, fun n xs e => ?_⟩, ?_⟩
  · rcases List.mem_append.mp hm with hm | hm
    · exact (S.xl q hq).1 hm
    · rw [List.mem_singleton.mp hm] at hq
      obtain ⟨_, zs, ez⟩ := S.xl p hq
      rw [hn] at ez; cases ez
  · obtain ⟨_, zs, ez⟩ := S.xl q hq
    exact ⟨zs, by rw [upd_ne (ne_of_none ez hn)]; exact ez⟩
  · rw [List.nodup_append]
    exact ⟨S.nd, by simp, fun a ha b hb => by
      have : b = p := by simpa using hb
      subst this
      intro e; subst e
      exact S.fresh hn ha⟩
  · by_cases hl : n < s.length
    · rw [List.getElem?_append_left hl] at e
      obtain ⟨q, us, e1, e2, r2⟩ := S.at_ n xs e
      refine ⟨q, us, ?_, ?_, Reps.mono g _ _ r2⟩
      · rw [List.getElem?_append_left (by rw [S.len]; exact hl)]; exact e1
      · rw [upd_ne (ne_of_none e2 hn)]; exact e2
    · have hn' : n = s.length := by
        have := (List.getElem?_eq_some_iff.mp e).1
        simp at this
        omega
      subst hn'
      rw [List.getElem?_append_right (Nat.le_refl _)] at e
      simp at e; subst e
      refine ⟨p, vs, ?_, upd_same, Reps.mono g _ _ r⟩
      rw [← S.len, List.getElem?_append_right (Nat.le_refl _)]
      simp
  · simp only [Rep]
    refine ⟨p, ?_, rfl⟩
    rw [← S.len, List.getElem?_append_right (Nat.le_refl _)]
    simp
theorem s_mlst {l : E} {es : List Expr} {pos : Pos} (hl : PA X es (tA C P call Wx l)) : PE X (.List es pos) (tE C P call Wx (.mlst l)) := by
  refine (pe_lst hl).imp fun σ H Q ⟨ρ, s, env, eR, S, h⟩ => ?_
  simp only [evE] at h
  refine tA.bnd eR S rfl h.fits fun ρ1 H1 s1 x v g1 eR1 S1 r1 h1 => ?_
  split at h1
  · rename_i hl
    refine ⟨by rw [← r1.length, ← line_eq]; exact hl, fun p hn => ?_⟩
    obtain ⟨g, S', r'⟩ := S1.push hn r1
    exact h1 _ _ _ g S' r'
  · exact h1.elim
/-! items, slices, calls -/
theorem PE.two {e : Expr} {t t1 t2 : TE} (h1 : PE X e t1) (h2 : PE X e t2) (k : ∀ σ H Q, t σ H Q → t1 σ H Q ∨ t2 σ H Q) : PE X e t := ⟨fun pins s σ H Q I q => by
  rcases k σ H Q q with h | h
  · exact h1.run pins s σ H Q I h
  · exact h2.run pins s σ H Q I h⟩
theorem look_val : ∀ {ks : List (List Nat)} {ws : List W} {kvs : List (Key × V)} {k : List Nat} {w : W} {ρ : List Addr} {H : Hp}, kvs.map (·.1) = ks.map (fun l => Sum.inr (strOf l)) → Reps C ρ H ws (kvs.map (·.2)) → look k ks ws = some w → ∃ v, valV kvs (Sum.inr (strOf k) : Key) = some v ∧ Rep C ρ H w v
  | [], _, _, _, _, _, _, _, _, e => by simp [look] at e
  | _ :: _, [], _, _, _, _, _, _, _, e => by simp [look] at e
  | a :: ks, x :: ws, [], _, _, _, _, h, _, _ => by simp at h
  | a :: ks, x :: ws, (k0, v0) :: kvs, k, w, ρ, H, h, r, e => by
    simp only [List.map_cons, List.cons.injEq] at h
    simp only [List.map_cons] at r
    obtain ⟨v, us, e0, r1, r2⟩ := r.cons'
    cases e0
    simp only [look] at e
    by_cases hk : a = k
    · rw [if_pos hk] at e
      cases e
      subst hk
      exact ⟨v0, valV_pos h.1, r1⟩
    · rw [if_neg hk] at e
      obtain ⟨v, e1, r3⟩ := look_val h.2 r2 e
      refine ⟨v, ?_, r3⟩
      rw [valV_neg (p := (k0, v0)) (fun q => ?_)]
      · exact e1
      · rw [show (k0, v0).1 = k0 from rfl, h.1] at q
        have : strOf a = strOf k := Sum.inr.inj q
        simp only [strOf, Str.mk.injEq] at this
        exact hk (by simpa using congrArg Array.toList this)
def plainIx : Expr → Bool
  | .Slice .. => false
  | _ => true
theorem s_ix {a b : E} {ea eb : Expr} {pos : Pos} (ct : Ct X C P Nn d Wx) (ha : PE X ea (tE C P call Wx a)) (hb : PE X eb (tE C P call Wx b)) (hi : PlainIx eb) (hs : NoSl eb) : PE X (.Subscript ea eb pos) (tE C P call Wx (.ix a b)) := by
  have hu : X.A.units + 1 < cLine := by have := ct.room.units; omega
  refine PE.two (pe_ix (it_all ct.hK) ha hb hi) (pe_dget hu ha hb hs) fun σ H Q ⟨ρ, s, env, eR, S, h⟩ => ?_
  simp only [evE] at h
  cases ex : evE P call a env s with
  | err => unfold G.bnd at h; rw [ex] at h; exact h.elim
  | exc c l s1 =>
    refine .inl ⟨ρ, s, env, eR, S, ?_⟩
    unfold G.bnd at h
    rw [ex] at h ⊢
    exact h
  | ok x0 s0 =>
    by_cases hd : ∃ ks vs, x0 = .dct ks vs
    · obtain ⟨ks, vs, rfl⟩ := hd
      refine .inr ?_
      have h' : ResG C (RepR C) ρ H (G.bnd (evE P call a env) (fun x => match x with | .dct ks vs => G.bnd (evE P call b env) fun y => rd (item (.dct ks vs) y) | _ => fail) s) Q (WE Wx σ) := by
        unfold G.bnd at h ⊢
        rw [ex] at h ⊢
        exact h
      refine tE.bnd eR S rfl h' fun ρ1 H1 s1 x v g1 eR1 S1 r1 h1 => ?_
      cases x <;> try exact h1.elim
      rename_i ks vs
      refine tE.bnd eR1 S1 rfl h1 fun ρ2 H2 s2 y u g2 eR2 S2 r2 h2 => ?_
      obtain ⟨w, e, h3⟩ := h2.rd
      cases y <;> try (simp [item, seqI] at e; done)
      simp only [item] at e
      have r3 := r1.mono g2
      simp only [Rep] at r3
      obtain ⟨p, kvs, rfl, hp, hH, hk, hv⟩ := r3
      obtain ⟨z, e4, r4⟩ := look_val hk hv e
      rw [r2.str.1]
      exact ⟨p, z, rfl, e4 ▸ DGet.k (k := Sum.inr _) hH, h3.here S2 r4⟩
    · refine .inl ?_
      have h' : ResG C (RepR C) ρ H (G.bnd (evE P call a env) (fun x => match x with | .dct ks vs => fail | x => G.bnd (evE P call b env) fun y => rd (item (soft x) y)) s) Q (WE Wx σ) := by
        unfold G.bnd at h ⊢
        rw [ex] at h ⊢
        cases x0 <;> first | exact h | exact (hd ⟨_, _, rfl⟩).elim
      refine tE.bnd eR S rfl h' fun ρ1 H1 s1 x v g1 eR1 S1 r1 h1 => ?_
      have nd : ∀ ks vs, x ≠ .dct ks vs := fun ks vs q => by subst q; exact h1.elim
      have h1' : ResG C (RepR C) ρ1 H1 (G.bnd (evE P call b env) (fun y => rd (item (soft x) y)) s1) Q (WE Wx σ) := by
        cases x <;> first | exact h1 | exact (nd _ _ rfl).elim
      refine tE.bnd eR1 S1 rfl h1' fun ρ2 H2 s2 y u g2 eR2 S2 r2 h2 => ?_
      obtain ⟨w, e, h2⟩ := h2.rd
      exact ⟨ρ2, s2, soft x, y, w, S2, Rep.soft _ _ (r1.mono g2), r2, (by intro ks vs q; cases x <;> simp [soft] at q; exact nd _ _ rfl), e, h2⟩
/-- a bound of a slice -/
def OptR : List Addr → Hp → Option Int → Option Int → Prop := fun _ _ a b => a = b
def tO (C : Cn) (P : Pg) (call : Nat → List W → M W) (Wx : WX) (a : E) : TO := fun σ H Q => ∃ ρ s env, EnvR C ρ H env σ ∧ SR C ρ H s ∧ ResG C OptR ρ H (evO P call a env s) Q (WE Wx σ)
theorem _root_.L2.PO.imp {e : Option Expr} {t t' : TO} (h : PO X e t) (k : ∀ σ H Q, t' σ H Q → t σ H Q) : PO X e t' := ⟨fun pins s σ H Q I q => h.run pins s σ H Q I (k σ H Q q)⟩
theorem s_no : PO X none (tO C P call Wx .no) := by
  refine po_none.imp fun σ H Q ⟨ρ, s, env, eR, S, h⟩ => ?_
  simp only [evO] at h
  exact ResG.here (a := none) (v := none) (s := s) h S rfl
theorem s_some {a : E} {ea : Expr} (ha : PE X ea (tE C P call Wx a)) : PO X (some ea) (tO C P call Wx (.itr a)) := by
  refine (po_some ha).imp fun σ H Q ⟨ρ, s, env, eR, S, h⟩ => ?_
  simp only [evO] at h
  refine tE.bnd eR S rfl h fun ρ1 H1 s1 x v g1 eR1 S1 r1 h1 => ?_
  cases x <;> try exact h1.elim
  rename_i i
  exact ⟨i, r1.int, ResG.here (a := some i) (v := some i) h1 S1 rfl⟩
theorem s_sl {a lo hi : E} {ea : Expr} {l h : Option Expr} {p2 pos : Pos} (ct : Ct X C P Nn d Wx) (ha : PE X ea (tE C P call Wx a)) (hl : PO X l (tO C P call Wx lo)) (hh : PO X h (tO C P call Wx hi)) : PE X (.Subscript ea (.Slice l h none p2) pos) (tE C P call Wx (.sl a lo hi)) := by
  refine (pe_slice (sl_all ct.hK) ha hl hh).imp fun σ H Q ⟨ρ, s, env, eR, S, h⟩ => ?_
  simp only [evE] at h
  refine tE.bnd eR S rfl h fun ρ1 H1 s1 x v g1 eR1 S1 r1 h1 => ?_
  refine ⟨ρ1, s1, env, eR1, S1, (ResG.bnd (Rl := OptR) h1).imp fun l H2 ⟨ρ2, s2, l', g2, S2, q, h2⟩ => ?_⟩
  have q : l' = l := q
  subst q
  refine ⟨ρ2, s2, env, eR1.mono g2, S2, (ResG.bnd (Rl := OptR) h2).imp fun h H3 ⟨ρ3, s3, h', g3, S3, q, h3⟩ => ?_⟩
  have q : h' = h := q
  subst q
  obtain ⟨w, e, h3⟩ := h3.rd
  exact ⟨ρ3, s3, soft x, w, S3, Rep.soft _ _ ((r1.mono g2).mono g3), e, h3⟩
theorem s_slx {a lo hi : E} {k : Int} {ea st : Expr} {ts : TO} {l h : Option Expr} {p2 pos : Pos} (ha : PE X ea (tE C P call Wx a)) (hl : PO X l (tO C P call Wx lo)) (hh : PO X h (tO C P call Wx hi)) (hs : PO X (some st) ts) (hk : ∀ σ H, ts σ H fun o H2 => o = some k ∧ H2 = H) (k0 : k ≠ 0) :
    PE X (.Subscript ea (.Slice l h (some st) p2) pos) (tE C P call Wx (.slx a lo hi k)) := by
  refine (GN.pe_step ha hl hh hs hk k0).imp fun σ H Q ⟨ρ, s, env, eR, S, h⟩ => ?_
  simp only [evE] at h
  refine tE.bnd eR S rfl h fun ρ1 H1 s1 x v g1 eR1 S1 r1 h1 => ?_
  refine ⟨ρ1, s1, env, eR1, S1, (ResG.bnd (Rl := OptR) h1).imp fun l H2 ⟨ρ2, s2, l', g2, S2, q, h2⟩ => ?_⟩
  have q : l' = l := q
  subst q
  refine ⟨ρ2, s2, env, eR1.mono g2, S2, (ResG.bnd (Rl := OptR) h2).imp fun h H3 ⟨ρ3, s3, h', g3, S3, q, h3⟩ => ?_⟩
  have q : h' = h := q
  subst q
  obtain ⟨xs, e, h3⟩ := h3.pureR
  rw [if_neg k0] at h3
  obtain ⟨p, vs, rfl, q, r⟩ := seqL_rep S3 ((r1.mono g2).mono g3) e
  refine ⟨p, vs, rfl, SqL.of q, OkP.lst (fun ρ' H' v g S r => h3 ρ' H' v g S r) S3 ?_⟩
  unfold cutX
  rw [← r.length]
  exact GN.pick_rep r _
theorem s_rev {a : E} {ea : Expr} {k : Nat} {p1 p2 p3 pos : Pos} (ha : PE X ea (tE C P call Wx a)) : PE X (.Subscript ea (.Slice none none (some (.UnaryOp .USub (.Constant (.int 1) k p1) p2)) p3) pos) (tE C P call Wx (.rev a)) := by
  refine (pe_revL ha).imp fun σ H Q ⟨ρ, s, env, eR, S, h⟩ => ?_
  simp only [evE] at h
  refine tE.bnd eR S rfl h fun ρ1 H1 s1 x v g1 eR1 S1 r1 h1 => ?_
  obtain ⟨xs, e, h1⟩ := h1.pureR
  obtain ⟨p, vs, rfl, q, r⟩ := seqL_rep S1 r1 e
  exact ⟨p, vs, rfl, SqL.of q, OkP.lst (fun ρ' H' v g S r => h1 ρ' H' v g S r) S1 r.rev⟩
theorem s_call {n : Nat} {l : E} {x : Str} {e : Expr} {es : List Expr} {p pos : Pos} (ct : Ct X C P Nn d Wx) (hn : Nn.fns[n]? = some x) (hg : Gl X x) (hdb : (x == ("__debug__" : Str)) = false) (hl : PA X (e :: es) (tA C P (callD P d) Wx l))
    (he : starEach (e :: es) X.env = (false, eval e X.env) :: starEach es X.env) (hpl : (backTo pos (starEach es X.env)).any (·.1) = false) : PE X (.Call (.Name x p) (e :: es) [] pos) (tE C P (callD P d) Wx (.call n l)) := by
  obtain ⟨f, fd, ps, e1, e2, e3, e4, F⟩ := ct.fn d (Nat.le_refl d) n x hn
  refine (pe_callS F ct.room hg e2 e3 e4 (passAt ct.tk) hl hdb he hpl).imp fun σ H Q ⟨ρ, s, env, eR, S, h⟩ => ?_
  simp only [evE] at h
  refine tA.bnd eR S rfl h fun ρ1 H1 s1 x v g1 eR1 S1 r1 h1 => ?_
  exact ⟨C.xi, ρ1, s1, x, S1, r1, h1⟩
def biN : Bi → Option (Str × Bool)
  | .len => some ("len", true) | .abs => some ("abs", true) | .int => some ("int", false) | .list => some ("list", false) | .tuple => some ("tuple", false)
  | .htuple => some ("tuple", false) | .str => some ("str", false) | .sorted => some ("sorted", true) | .dict => some ("dict", false)
  | .max => some ("max", true) | .min => some ("min", true) | .sum => some ("sum", true) | .all => some ("all", true) | .any => some ("any", true) | .isi => some ("isinstance", true)
  | _ => none
theorem s_bi {b : Bi} {l : E} {x : Str} {k : Bool} {e : Expr} {es : List Expr} {p pos : Pos} (ct : Ct X C P Nn d Wx) (hb : biN b = some (x, k)) (hg : Gl X x) (hl : PA X (e :: es) (tA C P call Wx l))
    (he : starEach (e :: es) X.env = (false, eval e X.env) :: starEach es X.env) (hpl : (backTo pos (starEach es X.env)).any (·.1) = false) : PE X (.Call (.Name x p) (e :: es) [] pos) (tE C P call Wx (.bi b l)) := by
  have imp : b ≠ .mlist → ∀ σ H Q, tE C P call Wx (.bi b l) σ H Q → tA C P call Wx l σ H fun vs H1 => rBi C b vs H1 Q := fun hb σ H Q ⟨ρ, s, env, eR, S, h⟩ => by
    have h' : ResG C (RepR C) ρ H (G.bnd (evA P call l env) (fun xs => rd (biop b xs)) s) Q (WE Wx σ) := by
      cases b <;> first | (simp only [evE] at h; exact h) | exact (hb rfl).elim
    refine tA.bnd eR S rfl h' fun ρ1 H1 s1 x v g1 eR1 S1 r1 h1 => ?_
    obtain ⟨w, e, h1⟩ := h1.rd
    exact ⟨ρ1, s1, x, w, S1, r1, e, h1⟩
  cases b <;> simp only [biN, Option.some.injEq, Prod.mk.injEq, reduceCtorEq] at hb <;> obtain ⟨rfl, rfl⟩ := hb
  · exact (pe_callB (cb_len ct.hK) hg (ct.blt _ (by decide +kernel)) boot_len hl (by decide +kernel) (by decide +kernel) he hpl).imp (imp (by decide))
  · exact (pe_callB cb_abs hg (ct.blt _ (by decide +kernel)) (by decide +kernel) hl (by decide +kernel) (by decide +kernel) he hpl).imp (imp (by decide))
  · exact (pe_callTy cb_int hg (ct.blt _ (by decide +kernel)) (by decide +kernel) hl (by decide +kernel) (by decide +kernel) he hpl).imp (imp (by decide))
  · exact (pe_callTy cb_str hg (ct.blt _ (by decide +kernel)) (by decide +kernel) hl (by decide +kernel) (by decide +kernel) he hpl).imp (imp (by decide))
  · exact (pe_callTy (cb_list ct.hK) hg (ct.blt _ (by decide +kernel)) (by decide +kernel) hl (by decide +kernel) (by decide +kernel) he hpl).imp (imp (by decide))
  · exact (pe_callTy (cb_tuple ct.hK) hg (ct.blt _ (by decide +kernel)) (by decide +kernel) hl (by decide +kernel) (by decide +kernel) he hpl).imp (imp (by decide))
  · exact (pe_callTy (cb_dict ct.hK ct.calm) hg (ct.blt _ (by decide +kernel)) (by decide +kernel) hl (by decide +kernel) (by decide +kernel) he hpl).imp (imp (by decide))
  · exact (pe_callB (cb_max ct.hK ct.calm ct.room.units) hg (ct.blt _ (by decide +kernel)) (by decide +kernel) hl (by decide +kernel) (by decide +kernel) he hpl).imp (imp (by decide))
  · exact (pe_callB (cb_min ct.hK ct.calm ct.room.units) hg (ct.blt _ (by decide +kernel)) (by decide +kernel) hl (by decide +kernel) (by decide +kernel) he hpl).imp (imp (by decide))
  · exact (pe_callB (cb_sum ct.calm) hg (ct.blt _ (by decide +kernel)) (by decide +kernel) hl (by decide +kernel) (by decide +kernel) he hpl).imp (imp (by decide))
  · exact (pe_callB (cb_all ct.calm) hg (ct.blt _ (by decide +kernel)) (by decide +kernel) hl (by decide +kernel) (by decide +kernel) he hpl).imp (imp (by decide))
  · exact (pe_callB (cb_any ct.calm) hg (ct.blt _ (by decide +kernel)) (by decide +kernel) hl (by decide +kernel) (by decide +kernel) he hpl).imp (imp (by decide))
  · exact (pe_callB cb_sorted hg (ct.blt _ (by decide +kernel)) (by decide +kernel) hl (by decide +kernel) (by decide +kernel) he hpl).imp (imp (by decide))
  · exact (pe_callB (cb_isi ct.hK) hg (ct.blt _ (by decide +kernel)) (by decide +kernel) hl (by decide +kernel) (by decide +kernel) he hpl).imp (imp (by decide))
  · exact (pe_callTy cb_htuple hg (ct.blt _ (by decide +kernel)) (by decide +kernel) hl (by decide +kernel) (by decide +kernel) he hpl).imp (imp (by decide))
theorem s_lenset {a : E} {ea : Expr} {p p2 q pos : Pos} (ct : Ct X C P Nn d Wx) (g1 : Gl X "len") (g2 : Gl X "set") (ha : PE X ea (tE C P call Wx a)) (hs : starEach [ea] X.env = (false, eval ea X.env) :: starEach [] X.env) :
    PE X (.Call (.Name "len" p) [.Call (.Name "set" p2) [ea] [] q] [] pos) (tE C P call Wx (.lens a)) := by
  refine (GN.pe_unlike ct.calm g1 (ct.blt _ (by decide +kernel)) g2 (ct.blt _ (by decide +kernel)) ha hs).imp fun σ H Q ⟨ρ, s, env, eR, S, h⟩ => ?_
  have h' : ResG C (RepR C) ρ H (G.bnd (evE P call a env) (fun x => rd (biop .lenset [x])) s) Q (WE Wx σ) := by
    simp only [evE] at h
    exact h
  refine tE.bnd eR S rfl h' fun ρ1 H1 s1 x v g1 eR1 S1 r1 h1 => ?_
  obtain ⟨w, e, h1⟩ := h1.rd
  simp only [biop] at e
  unfold bUnl at e
  simp only [Option.bind_eq_some_iff] at e
  obtain ⟨xs, e1, ns, e2, e3⟩ := e
  split at e3
  · rename_i few
    cases e3
    obtain ⟨l, vs, rfl, hs, r⟩ := seqI_rep S1 r1 e1
    obtain ⟨h2, h3⟩ := r.strs e2
    subst h2
    refine ⟨l, ns.map strOf, rfl, ct.hK ▸ hs, by rw [List.length_map]; exact few, ?_⟩
    rw [show GN.unlike [] (ns.map strOf) = unl [] ns from GN.unlike_is ns []]
    exact h1.here S1 Rep.mkI
  · cases e3
theorem reps_zip {ρ : List Addr} {H : Hp} : ∀ {xs ys : List W} {vs us : List V} {as : List Addr}, Reps C ρ H xs vs → Reps C ρ H ys us → as.length = min vs.length us.length → (∀ t ∈ as, Out C ρ t) →
    (∀ (j : Nat) (t : Addr), as[j]? = some t → ∃ x y, vs[j]? = some x ∧ us[j]? = some y ∧ H t = some (.tup [x, y])) → Reps C ρ H (zipW xs ys) (as.map V.ref) := by
  intro xs
  induction xs with
  | nil =>
    intro ys vs us as r1 r2 hl _ _
    have := r1.nil'; subst this
    simp only [List.length_nil, Nat.zero_min, List.length_eq_zero_iff] at hl
    subst hl
    simp only [zipW, List.map_nil, Reps]
  | cons x xs ih =>
    intro ys vs us as r1 r2 hl ho h
    obtain ⟨v, vs', rfl, p1, p2⟩ := r1.cons'
    cases ys with
    | nil =>
      have := r2.nil'; subst this
      simp only [List.length_nil, Nat.min_zero, List.length_eq_zero_iff] at hl
      subst hl
      simp only [zipW, List.map_nil, Reps]
    | cons y ys =>
      obtain ⟨u, us', rfl, q1, q2⟩ := r2.cons'
      cases as with
      | nil => simp at hl
      | cons a as =>
        obtain ⟨x1, y1, e1, e2, e3⟩ := h 0 a rfl
        simp only [List.getElem?_cons_zero, Option.some.injEq] at e1 e2
        subst e1; subst e2
        simp only [zipW, List.map_cons]
        refine Reps.mk ?_ (ih p2 q2 (by simp only [List.length_cons] at hl; omega) (fun t ht => ho t (List.mem_cons_of_mem _ ht)) fun j t e => ?_)
        · simp only [Rep]
          exact ⟨a, [v, u], rfl, .inl ⟨ho a List.mem_cons_self, .inl e3⟩, Reps.mk p1 (Reps.one q1)⟩
        · obtain ⟨x2, y2, f1, f2, f3⟩ := h (j + 1) t (by simpa using e)
          exact ⟨x2, y2, by simpa using f1, by simpa using f2, f3⟩
theorem s_lzip {a b : E} {ea eb : Expr} {p p2 q pos : Pos} (ct : Ct X C P Nn d Wx) (g1 : Gl X "list") (g2 : Gl X "zip") (ha : PE X ea (tE C P call Wx a)) (hb : PE X eb (tE C P call Wx b)) (hs : starEach [ea, eb] X.env = (false, eval ea X.env) :: starEach [eb] X.env)
    (hs2 : starEach [eb] X.env = (false, eval eb X.env) :: starEach [] X.env) (hpl : (backTo q (starEach [eb] X.env)).any (·.1) = false) : PE X (.Call (.Name "list" p) [.Call (.Name "zip" p2) [ea, eb] [] q] [] pos) (tE C P call Wx (.lzip a b)) := by
  have hl : PA X [ea, eb] (tA C P call Wx (.cons a (.cons b .nil))) := s_cons ha (s_cons hb s_nil hs2) hs
  refine (GN.pe_zipL ct.calm g1 (ct.blt _ (by decide +kernel)) (by decide +kernel) g2 (ct.blt _ (by decide +kernel)) hl hs hpl).imp fun σ H Q ⟨ρ, s, env, eR, S, h⟩ => ?_
  have h' : ResG C (RepR C) ρ H (G.bnd (evA P call (.cons a (.cons b .nil)) env) (fun xs => match xs with | [x, y] => (match soft x, soft y with | .tup xs, .tup ys => ret (.lst (zipW xs ys)) | _, _ => fail) | _ => fail) s) Q (WE Wx σ) := by
    simp only [evE] at h
    simp only [evA]
    unfold G.bnd ret at h ⊢
    cases e : evE P call a env s with
    | ok x s1 =>
      simp only [e] at h ⊢
      cases e2 : evE P call b env s1 <;> simp only [e2] at h ⊢ <;> exact h
    | exc c l s1 => simp only [e] at h ⊢; exact h
    | err => simp only [e] at h
             exact h.elim
  refine tA.bnd eR S rfl h' fun ρ1 H1 s1 x v g1 eR1 S1 r1 h1 => ?_
  split at h1
  · rename_i x y
    have two : ∃ xs ys, soft x = .tup xs ∧ soft y = .tup ys ∧ ResG C (RepR C) ρ1 H1 (ret (.lst (zipW xs ys)) s1) Q (WE Wx σ) := by
      revert h1
      generalize soft x = x'
      generalize soft y = y'
      intro h1
      cases x' <;> cases y' <;> first | exact h1.elim | exact ⟨_, _, rfl, rfl, h1⟩
    obtain ⟨xs, ys, ex, ey, h1⟩ := two
    · obtain ⟨v1, vv, rfl, p1, p2⟩ := r1.cons'
      obtain ⟨v2, rfl, p3⟩ := rep1 p2
      have p1 := Rep.soft _ _ p1
      have p3 := Rep.soft _ _ p3
      rw [ex] at p1; rw [ey] at p3
      obtain ⟨pa, vs, rfl, qa, ra⟩ := p1.tup
      obtain ⟨pb, us, rfl, qb, rb⟩ := p3.tup
      refine ⟨pa, pb, vs, us, rfl, ct.hK ▸ qa.sq, ct.hK ▸ qb.sq, fun H2 D as kp nD nt hD ln at_ => ?_⟩
      have gr : Gr ρ1 H1 ρ1 H2 := ⟨⟨[], by simp, fun _ h => nomatch h⟩, fun p o _ h _ => kp p o h, fun p f o e => f o (kp p o e)⟩
      have S2 : SR C ρ1 H2 s1 := S1.mono gr (fun p hp => by obtain ⟨vs, e⟩ := S1.some hp; rw [e, kp p _ e]) (S1.tb.ext fun b u e => kp b u e)
      refine h1 ρ1 H2 _ gr S2 ?_
      show Rep C ρ1 H2 (.lst (zipW xs ys)) (.ref D)
      simp only [Rep]
      exact ⟨D, _, rfl, S1.fresh' nD, hD, reps_zip (ra.mono gr) (rb.mono gr) ln (fun t ht => S1.fresh' (nt t ht)) at_⟩
  · exact h1.elim
theorem s_mlist {l : E} {e : Expr} {es : List Expr} {p pos : Pos} (ct : Ct X C P Nn d Wx) (hg : Gl X "list") (hl : PA X (e :: es) (tA C P call Wx l))
    (he : starEach (e :: es) X.env = (false, eval e X.env) :: starEach es X.env) (hpl : (backTo pos (starEach es X.env)).any (·.1) = false) : PE X (.Call (.Name "list" p) (e :: es) [] pos) (tE C P call Wx (.bi .mlist l)) := by
  refine (pe_callTy (call_list_of) hg (ct.blt _ (by decide +kernel)) (by decide +kernel) hl (by decide +kernel) (by decide +kernel) he hpl).imp fun σ H Q ⟨ρ, s, env, eR, S, h⟩ => ?_
  simp only [evE] at h
  refine tA.bnd eR S rfl h fun ρ1 H1 s1 x v g1 eR1 S1 r1 h1 => ?_
  obtain ⟨w, e, h2⟩ := h1.pureR
  obtain ⟨a, rfl⟩ := biop_list1 e
  obtain ⟨u, rfl, r3⟩ := rep1 r1
  obtain ⟨ws, p, vs, rfl, rfl, hs, r2⟩ := list_of S1 r3 e
  refine ⟨p, vs, rfl, ct.hK ▸ hs, fun q hn => ?_⟩
  obtain ⟨g, S', r'⟩ := S1.push hn r2
  exact h2 _ _ _ g S' r'
/-! methods -/
/-- a list of the store is written -/
theorem SR.write {ρ : List Addr} {H : Hp} {s : ST} {n : Nat} {p : Addr} {ws us : List W} {vs xs : List V} (S : SR C ρ H s) (e : s[n]? = Option.some ws) (ep : ρ[n]? = Option.some p) (hp : H p = Option.some (.lst vs)) (r : Reps C ρ H us xs) :
    Gr ρ H ρ (upd H p (.lst xs)) ∧ SR C ρ (upd H p (.lst xs)) (s.set n us) := by
  have hm : p ∈ ρ := List.mem_of_getElem? ep
  have g : Gr ρ H ρ (upd H p (.lst xs)) := by
    refine ⟨⟨[], by simp, fun _ h => nomatch h⟩, fun q u hq h _ => ?_, fun q h => ?_⟩
    · have : q ≠ p := fun e => hq (e ▸ hm)
      rw [upd_ne this]; exact h
    · by_cases e : q = p
      · subst e
        obtain ⟨ps, z⟩ := h _ upd_same
        cases z
      · exact fun u hu => h u (by rw [upd_ne e]; exact hu)
  refine ⟨g, ⟨fun q hq => by
    obtain ⟨h1, zs, h2⟩ := S.xl q hq
    exact ⟨h1, zs, by rw [upd_ne (fun (z : q = p) => h1 (by rw [z]; exact hm))]; exact h2⟩, tabs_wr S.tb hp, by simp [S.len], S.nd, fun m ys e2 => ?_⟩⟩
  by_cases hmn : n = m
  · subst hmn
    rw [List.getElem?_set_self (List.getElem?_eq_some_iff.mp e).1] at e2
    cases e2
    exact ⟨p, xs, ep, upd_same, Reps.mono g _ _ r⟩
  · rw [List.getElem?_set_ne hmn] at e2
    obtain ⟨q, zs, a1, a2, a3⟩ := S.at_ m ys e2
    refine ⟨q, zs, a1, ?_, Reps.mono g _ _ a3⟩
    have : q ≠ p := fun e => by
      subst e
      obtain ⟨h1, e1⟩ := List.getElem?_eq_some_iff.mp a1
      obtain ⟨h2, e2⟩ := List.getElem?_eq_some_iff.mp ep
      exact hmn ((List.getElem_inj S.nd).mp (e2.trans e1.symm))
    rw [upd_ne this]; exact a2
theorem Rep.ref {ρ : List Addr} {H : Hp} {n : Nat} {v : V} (r : Rep C ρ H (.ref n) v) : ∃ p, ρ[n]? = some p ∧ v = .ref p := by simpa only [Rep] using r
theorem reps2 {ρ : List Addr} {H : Hp} {vs : List V} (r : Reps C ρ H [] vs) : vs = [] := r.nil'
theorem i_ref {m : Me} {o l : E} {σ : L2.St} {H : Hp} {Q : VK} {r : V → List V → Hp → VK → Prop} (h : tE C P call Wx (.meth m o l) σ H Q)
    (hm : m.isL = true) (k : ∀ n ρ2 H2 s2 p ws u, SR C ρ2 H2 s2 → ρ2[n]? = some p → Reps C ρ2 H2 ws u → ResG C (RepR C) ρ2 H2 (meL m n ws s2) Q (WE Wx σ) → r (.ref p) u H2 Q) : tBM X.K "list" r (tE C P call Wx o) (tA C P call Wx l) σ H Q := by
  obtain ⟨ρ, s, env, eR, S, h⟩ := h
  simp only [evE, hm] at h
  refine tE.bnd eR S rfl h fun ρ1 H1 s1 x v g1 eR1 S1 r1 h1 => ?_
  cases x <;> try exact h1.elim
  rename_i n
  obtain ⟨p, ep, rfl⟩ := r1.ref
  obtain ⟨vs0, hp0⟩ := S1.some (List.mem_of_getElem? ep)
  refine ⟨.inl ⟨rfl, vs0, SqL.of hp0⟩, ?_⟩
  refine tA.bnd eR1 S1 rfl h1 fun ρ2 H2 s2 y u g2 eR2 S2 r2 h2 => ?_
  exact k n ρ2 H2 s2 p y u S2 (g2.get ep) r2 h2
/-- o.append(x) -/
theorem s_append {o l : E} {eo e1 : Expr} {apos cpos : Pos} (ho : PE X eo (tE C P call Wx o)) (hl : PA X [e1] (tA C P call Wx l)) (hbase : attributeBase eo "append" X.env (eval eo X.env) = eval eo X.env)
    (hfew : ((backTo cpos (starEach [e1] X.env)).all (fun x => !x.1) && (backToKw cpos (keywordEach [] X.env)).all (fun x => x.1.isSome) && decide ([e1].length + ([] : List Keyword).length + (if ([] : List Keyword).isEmpty then 0 else 1) < 30)) = true)
    (hline : (apos.endLine == cpos.line) = true) (hs : starEach [e1] X.env = (false, eval e1 X.env) :: starEach [] X.env) :
    PE X (.Call (.Attribute eo "append" apos) [e1] [] cpos) (tE C P call Wx (.meth .append o l)) := by
  refine (pe_bm PySem.F.plainAttrs_list PySem.F.slot_list_append PySem.F.type_list_append mt_append ho hl hbase hfew hline hs rfl).imp fun σ H Q h => ?_
  refine i_ref h rfl fun n ρ2 H2 s2 p ws u S2 ep r2 h2 => ?_
  rcases ws with _ | ⟨w, _ | ⟨w2, t⟩⟩
  · exact h2.elim
  · obtain ⟨z, rfl, r3⟩ := rep1 r2
    simp only [meL] at h2
    unfold mApp at h2
    split at h2
    · rename_i ws es
      obtain ⟨p', vs, a1, a2, a3⟩ := S2.at_ n ws es
      rw [ep] at a1; cases a1
      split at h2
      · rename_i hlt
        obtain ⟨g, S'⟩ := S2.write es ep a2 (a3.app (Reps.one r3))
        exact ⟨p, vs, z, rfl, rfl, a2, by rw [← a3.length, ← line_eq]; exact hlt, h2 _ _ _ g S' Rep.mkN⟩
      · exact h2.elim
    · exact h2.elim
  · exact h2.elim
/-- o.pop(i) -/
theorem s_pop {o l : E} {eo e1 : Expr} {apos cpos : Pos} (ho : PE X eo (tE C P call Wx o)) (hl : PA X [e1] (tA C P call Wx l)) (hbase : attributeBase eo "pop" X.env (eval eo X.env) = eval eo X.env)
    (hfew : ((backTo cpos (starEach [e1] X.env)).all (fun x => !x.1) && (backToKw cpos (keywordEach [] X.env)).all (fun x => x.1.isSome) && decide ([e1].length + ([] : List Keyword).length + (if ([] : List Keyword).isEmpty then 0 else 1) < 30)) = true)
    (hline : (apos.endLine == cpos.line) = true) (hs : starEach [e1] X.env = (false, eval e1 X.env) :: starEach [] X.env) :
    PE X (.Call (.Attribute eo "pop" apos) [e1] [] cpos) (tE C P call Wx (.meth .pop o l)) := by
  refine (pe_bm PySem.F.plainAttrs_list PySem.F.slot_list_pop PySem.F.type_list_pop mt_popAt ho hl hbase hfew hline hs rfl).imp fun σ H Q h => ?_
  refine i_ref h rfl fun n ρ2 H2 s2 p ws u S2 ep r2 h2 => ?_
  rcases ws with _ | ⟨w, _ | ⟨w2, t⟩⟩
  · exact h2.elim
  · cases w <;> try exact h2.elim
    rename_i i
    obtain ⟨z, rfl, r3⟩ := rep1 r2
    have := r3.int; subst this
    simp only [meL] at h2
    unfold mPop at h2
    split at h2
    · rename_i ws es
      obtain ⟨p', vs, a1, a2, a3⟩ := S2.at_ n ws es
      rw [ep] at a1; cases a1
      split at h2
      · rename_i j ej
        split at h2
        · rename_i y ey
          split at h2
          · rename_i hr
            obtain ⟨z, e4, r4⟩ := a3.get ey
            obtain ⟨g, S'⟩ := S2.write es ep a2 (a3.erase j)
            have e5 : ixN vs.length i = some j := by rw [ix_eq, ← a3.length]; exact ej
            exact ⟨p, vs, i, j, z, rfl, rfl, a2, by omega, by omega, (ixN_seq e5).1, e4, h2 _ _ _ g S' (r4.mono g)⟩
          · exact h2.elim
        · exact h2.elim
      · exact h2.elim
    · exact h2.elim
  · cases w <;> exact h2.elim
theorem txt_join (a : List Nat) (ns : List (List Nat)) : Txt.join (strOf a) (ns.map strOf) = strOf (joinS a ns) := by
  rw [TL.join_eq]
  induction ns with
  | nil => rfl
  | cons p r ih =>
    cases r with
    | nil => rfl
    | cons q r =>
      show strOf p ++ strOf a ++ Str.join (strOf a) ((q :: r).map strOf) = strOf (p ++ (a ++ joinS a (q :: r)))
      rw [ih, strOf_app, strOf_app, List.append_assoc]
end
end G

set_option Elab.async false
set_option linter.all false
set_option autoImplicit false
set_option maxRecDepth 100000
set_option maxHeartbeats 2000000
/-! G7: what is walked, comprehensions, targets. -/
namespace G
open PySem PySem.Spec PyProof.Rows L2
section
variable {X : Cx} {C : Cn} {P : Pg} {Nn : Nm} {d : Nat} {Wx : WX} {call : Nat → List W → M W}
/-- o.join(x) -/
theorem s_join {o l : E} {eo e1 : Expr} {apos cpos : Pos} (ct : Ct X C P Nn d Wx) (ho : PE X eo (tE C P call Wx o)) (hl : PE X e1 (tE C P call Wx l)) (hbase : attributeBase eo "join" X.env (eval eo X.env) = eval eo X.env)
    (hline : (apos.endLine == cpos.line) = true) (hs : starEach [e1] X.env = [(false, eval e1 X.env)]) :
    PE X (.Call (.Attribute eo "join" apos) [e1] [] cpos) (tE C P call Wx (.meth .join o (.cons l .nil))) := by
  refine (pe_join ho hl hs hbase hline).imp fun σ H Q ⟨ρ, s, env, eR, S, h⟩ => ?_
  simp only [evE, Me.isL] at h
  refine tE.bnd eR S rfl h fun ρ1 H1 s1 x v g1 eR1 S1 r1 h1 => ?_
  cases x <;> try exact h1.elim
  rename_i a
  simp only [evA] at h1
  rw [bnd_assoc] at h1
  refine ⟨⟨_, r1.str.1⟩, ?_⟩
  refine tE.bnd eR1 S1 rfl h1 fun ρ2 H2 s2 y u g2 eR2 S2 r2 h2 => ?_
  have h3 : ResG C (RepR C) ρ2 H2 (G.rd (fun s => meJoin a s [y]) s2) Q (WE Wx σ) := h2
  obtain ⟨w, e, h3⟩ := h3.rd
  simp only [meJoin, Option.bind_eq_some_iff] at e
  obtain ⟨xs, e1, ns, e2, e⟩ := e
  split at e
  · rename_i hl
    cases e
    obtain ⟨p, vs, rfl, q, r⟩ := seqI_rep S2 r2 e1
    obtain ⟨f1, f2⟩ := r.strs e2
    subst f1
    have oS : okS (joinS a ns) := by
      have oa := r1.str.2
      clear hl e1 e2 r h3 q
      induction ns with
      | nil => exact fun _ h => nomatch h
      | cons p r ih =>
        cases r with
        | nil => exact f2 p List.mem_cons_self
        | cons q r => exact okS_app (f2 p List.mem_cons_self) (okS_app oa (ih fun l hl => f2 l (List.mem_cons_of_mem _ hl)))
    refine ⟨strOf a, p, ns.map strOf, r1.str.1, rfl, ct.hK ▸ q, ?_, ?_⟩
    · have e3 : ((ns.map strOf).map (·.length)).sum = (ns.map (·.length)).sum := by
        rw [List.map_map]
        exact congrArg List.sum (List.map_congr_left fun l _ => strOf_len l)
      rw [e3, List.length_map, strOf_len]
      exact hl
    · rw [txt_join]
      exact h3.here S2 (Rep.mkS oS)
  · cases e
/-! ### what is walked -/
def srcAt : Src → Nat → ST → Option (Option W)
  | .row xs, i, _ => some xs[i]?
  | .live n, i, s => liveAt n i s
  | .liveE n, i, s => (liveAt n i s).map fun o => o.map fun x => .tup [.int i, x]
def Lk (C : Cn) (ρ0 : List Addr) (H0 : Hp) (src : Src) (J : It) : Prop :=
  ∀ ρ H s i o, Gr ρ0 H0 ρ H → SR C ρ H s → srcAt src i s = some o → match o with
    | some x => J.go i H ∧ ∀ v H', J.yld i H v H' → Gr ρ H ρ H' ∧ SR C ρ H' s ∧ Rep C ρ H' x v
    | none => J.stop i H
/-- .. also while a list is made -/
def LkA (C : Cn) : List Addr → Hp → Src → It → Prop := fun ρ H src J => Lk C ρ H src J ∧ ∀ D, Fre H D → Lk (C.hide D) ρ H src J
theorem Lk.mono {ρ ρ' : List Addr} {H H' : Hp} {src : Src} {J : It} (h : Lk C ρ H src J) (g : Gr ρ H ρ' H') : Lk C ρ' H' src J := fun ρ2 H2 s i o g2 => h ρ2 H2 s i o (g.trans g2)
theorem LkA.mono {ρ ρ' : List Addr} {H H' : Hp} {src : Src} {J : It} (h : LkA C ρ H src J) (g : Gr ρ H ρ' H') : LkA C ρ' H' src J := ⟨h.1.mono g, fun D hD => (h.2 D (g.live D hD)).mono g⟩
theorem lk_rowL {ρ : List Addr} {H : Hp} {xs : List W} {p : Addr} {vs : List V} (ho : Out C ρ p) (hp : H p = some (.lst vs)) (r : Reps C ρ H xs vs) : LkA C ρ H (.row xs) (Itl X.K p) := by
  have main : ∀ C : Cn, Out C ρ p → Reps C ρ H xs vs → Lk C ρ H (.row xs) (Itl X.K p) := fun C ho r ρ2 H2 s i o g S e => by
    simp only [srcAt, Option.some.injEq] at e
    have hp2 := g.keep p _ ho.1 hp (fun _ q => by cases q)
    subst e
    cases ex : xs[i]? with
    | none =>
      refine ⟨vs, SqL.of hp2, ?_⟩
      rw [← r.length]
      exact List.getElem?_eq_none_iff.mp ex
    | some x =>
      obtain ⟨v, e1, r1⟩ := r.get ex
      refine ⟨⟨vs, v, SqL.of hp2, e1⟩, fun u H3 ⟨e3, hy⟩ => ?_⟩
      subst e3
      have := hy vs (SqL.of hp2)
      rw [e1] at this
      cases this
      exact ⟨Gr.refl, S, r1.mono g⟩
  exact ⟨main C ho r, fun D hD => main _ (ho.hide hD hp) (Reps.hide hD _ _ r)⟩
theorem lk_rowT {ρ : List Addr} {H : Hp} {xs : List W} {p : Addr} {vs : List V} (hX : X.K = C.K) (ho : RT C ρ H p vs) (r : Reps C ρ H xs vs) : LkA C ρ H (.row xs) (Itt X.K p) := by
  have main : ∀ C : Cn, X.K = C.K → RT C ρ H p vs → Reps C ρ H xs vs → (∀ ρ2 H2 s ys, Gr ρ H ρ2 H2 → SR C ρ2 H2 s → SqT X.K H2 p vs → SqT X.K H2 p ys → True) → Lk C ρ H (.row xs) (Itt X.K p) := fun C hX ho r _ ρ2 H2 s i o g S e => by
    simp only [srcAt, Option.some.injEq] at e
    have hp2 : SqT X.K H2 p vs := hX ▸ (ho.mono g).sq
    subst e
    cases ex : xs[i]? with
    | none =>
      refine ⟨vs, hp2, ?_⟩
      rw [← r.length]
      exact List.getElem?_eq_none_iff.mp ex
    | some x =>
      obtain ⟨v, e1, r1⟩ := r.get ex
      refine ⟨⟨vs, v, hp2, e1⟩, fun u H3 ⟨e3, hy⟩ => ?_⟩
      subst e3
      have := hy vs hp2
      rw [e1] at this
      cases this
      exact ⟨Gr.refl, S, r1.mono g⟩
  refine ⟨main C hX ho r fun _ _ _ _ _ _ _ _ => trivial, fun D hD => main _ hX ?_ (Reps.hide hD _ _ r) fun _ _ _ _ _ _ _ _ => trivial⟩
  rcases ho with ⟨o, q⟩ | q
  · obtain ⟨u, hu, hn⟩ := Rd.get q
    exact .inl ⟨o.hide hD hu hn, q⟩
  · exact .inr q
theorem lk_rowS {ρ : List Addr} {H : Hp} {l : List Nat} (ho : okS l) : LkA C ρ H (.row (l.map fun c => .str [c])) (Its (strOf l)) := by
  have main : ∀ C : Cn, Lk C ρ H (.row (l.map fun c => .str [c])) (Its (strOf l)) := fun C ρ2 H2 s i o g S e => by
    simp only [srcAt, Option.some.injEq, List.getElem?_map] at e
    subst e
    have hsz : (strOf l).cps.size = l.length := by simp [strOf]
    cases ex : l[i]? with
    | none =>
      show (strOf l).cps.size ≤ i
      rw [hsz]
      exact List.getElem?_eq_none_iff.mp ex
    | some c =>
      have hi := (List.getElem?_eq_some_iff.mp ex).1
      refine ⟨by show i < (strOf l).cps.size; rw [hsz]; exact hi, fun u H3 ⟨e3, c', e4, e5⟩ => ?_⟩
      subst e3; subst e5
      have : c' = c := by
        have e6 : l[i]? = some c' := by simpa [strOf] using e4
        rw [ex] at e6; cases e6; rfl
      subst this
      exact ⟨Gr.refl, S, Rep.mkS (l := [c']) fun d hd => by
        rw [List.mem_singleton.mp hd]; exact ho _ (List.mem_of_getElem? ex)⟩
  exact ⟨main C, fun D _ => main _⟩
theorem rngW_get : ∀ (n : Nat) (lo : Int) (i : Nat), (rngW lo n)[i]? = if i < n then some (W.int (lo + i)) else none
  | 0, lo, i => by simp [rngW]
  | n + 1, lo, 0 => by simp [rngW]
  | n + 1, lo, i + 1 => by
    simp only [rngW, List.getElem?_cons_succ, rngW_get n (lo + 1) i]
    by_cases h : i < n
    · rw [if_pos h, if_pos (by omega)]
      congr 2
      omega
    · rw [if_neg h, if_neg (by omega)]
theorem lk_rng {ρ : List Addr} {H : Hp} (lo : Int) (n : Nat) : LkA C ρ H (.row (rngW lo n)) (Itr lo n) := by
  have main : ∀ C : Cn, Lk C ρ H (.row (rngW lo n)) (Itr lo n) := fun C ρ2 H2 s i o g S e => by
    simp only [srcAt, Option.some.injEq, rngW_get] at e
    subst e
    by_cases h : i < n
    · rw [if_pos h]
      refine ⟨h, fun u H3 ⟨e3, e4⟩ => ?_⟩
      subst e3; subst e4
      exact ⟨Gr.refl, S, Rep.mkI⟩
    · rw [if_neg h]
      exact Nat.le_of_not_lt h
  exact ⟨main C, fun D _ => main _⟩
theorem lk_live {ρ : List Addr} {H : Hp} {n : Nat} {p : Addr} (hp : ρ[n]? = some p) : LkA C ρ H (.live n) (Itl X.K p) := by
  have main : ∀ C : Cn, Lk C ρ H (.live n) (Itl X.K p) := fun C ρ2 H2 s i o g S e => by
    simp only [srcAt, liveAt] at e
    split at e
    · rename_i xs es
      cases e
      obtain ⟨p', vs, a1, a2, a3⟩ := S.at_ n xs es
      rw [g.get hp] at a1; cases a1
      cases ex : xs[i]? with
      | none =>
        refine ⟨vs, SqL.of a2, ?_⟩
        rw [← a3.length]
        exact List.getElem?_eq_none_iff.mp ex
      | some x =>
        obtain ⟨v, e1, r1⟩ := a3.get ex
        refine ⟨⟨vs, v, SqL.of a2, e1⟩, fun u H3 ⟨e3, hy⟩ => ?_⟩
        subst e3
        have := hy vs (SqL.of a2)
        rw [e1] at this
        cases this
        exact ⟨Gr.refl, S, r1⟩
    · cases e
  exact ⟨main C, fun D _ => main _⟩
def tI (C : Cn) (P : Pg) (call : Nat → List W → M W) (Wx : WX) (ir : E) : TI := fun σ H R => ∃ ρ s env, EnvR C ρ H env σ ∧ SR C ρ H s ∧ ResG C (LkA C) ρ H (evI P call ir env s) R (WE Wx σ)
theorem _root_.L2.PI.imp {tg e : Expr} {t t' : TI} (h : PI X tg e t) (k : ∀ σ H Q, t' σ H Q → t σ H Q) : PI X tg e t' := ⟨fun pins s σ H Q I q => h.run pins s σ H Q I (k σ H Q q)⟩
/-- an expression whose outcome is known, ahead of a rest -/
theorem tE.ok {a : E} {γ δ : Type} {Rl2 : List Addr → Hp → γ → δ → Prop} {f : W → M γ} {ρ : List Addr} {H : Hp} {s : ST} {env : Env} {σ : L2.St} {Q : δ → Hp → Prop} {K : V → Hp → Prop} {x0 : W} {s0 : ST} (eR : EnvR C ρ H env σ) (S : SR C ρ H s)
    (h : ResG C Rl2 ρ H (G.bnd (evE P call a env) f s) Q (WE Wx σ)) (ex : evE P call a env s = .ok x0 s0)
    (k : ∀ ρ1 H1 v, Gr ρ H ρ1 H1 → EnvR C ρ1 H1 env σ → SR C ρ1 H1 s0 → Rep C ρ1 H1 x0 v → ResG C Rl2 ρ1 H1 (f x0 s0) Q (WE Wx σ) → K v H1) : tE C P call Wx a σ H K := by
  refine ⟨ρ, s, env, eR, S, ?_⟩
  unfold G.bnd at h
  rw [ex] at h ⊢
  exact fun ρ1 H1 v g S1 r => k ρ1 H1 v g (eR.mono g) S1 r (ResG.mono h g)
theorem tE.bad {a : E} {γ δ : Type} {Rl2 : List Addr → Hp → γ → δ → Prop} {f : W → M γ} {ρ : List Addr} {H : Hp} {s : ST} {env : Env} {σ : L2.St} {Q : δ → Hp → Prop} {K : V → Hp → Prop} (eR : EnvR C ρ H env σ) (S : SR C ρ H s)
    (h : ResG C Rl2 ρ H (G.bnd (evE P call a env) f s) Q (WE Wx σ)) (ex : ∀ x0 s0, evE P call a env s ≠ .ok x0 s0) : tE C P call Wx a σ H K := by
  refine ⟨ρ, s, env, eR, S, ?_⟩
  unfold G.bnd at h
  cases e : evE P call a env s with
  | ok x0 s0 => exact (ex x0 s0 e).elim
  | exc c l s1 => rw [e] at h; exact h
  | err => rw [e] at h; exact h
theorem tA.bndI {a : E} {γ δ : Type} {Rl2 : List Addr → Hp → γ → δ → Prop} {f : List W → M γ} {ρ : List Addr} {H : Hp} {s : ST} {env : Env} {σ : L2.St} {R : δ → Hp → Prop} {K : List V → Hp → Prop} (eR : EnvR C ρ H env σ) (S : SR C ρ H s)
    (h : ResG C Rl2 ρ H (G.bnd (evA P call a env) f s) R (WE Wx σ)) (k : ∀ ρ1 H1 s1 x v, Gr ρ H ρ1 H1 → EnvR C ρ1 H1 env σ → SR C ρ1 H1 s1 → Reps C ρ1 H1 x v → ResG C Rl2 ρ1 H1 (f x s1) R (WE Wx σ) → K v H1) : tA C P call Wx a σ H K :=
  ⟨ρ, s, env, eR, S, (ResG.bnd (Rl := RepsR C) h).imp fun v H1 ⟨ρ1, s1, x, g, S1, r, h1⟩ => k ρ1 H1 s1 x v g (eR.mono g) S1 r h1⟩
theorem enumW_get : ∀ (xs : List W) (k i : Nat), (enumW k xs)[i]? = (xs[i]?).map fun x => W.tup [.int (k + i : Nat), x]
  | [], k, i => by simp [enumW]
  | x :: xs, k, 0 => by simp [enumW]
  | x :: xs, k, i + 1 => by
    simp only [enumW, List.getElem?_cons_succ, enumW_get xs (k + 1) i]
    congr 1
    funext y
    rw [show k + 1 + i = k + (i + 1) by omega]
theorem zipW_get : ∀ (xs ys : List W) (i : Nat), (zipW xs ys)[i]? = match xs[i]?, ys[i]? with | some x, some y => some (W.tup [x, y]) | _, _ => none
  | [], ys, i => by simp [zipW]
  | _ :: _, [], i => by
    simp only [zipW, List.getElem?_nil]
    split
    · rename_i h; simp at h
    · rfl
  | x :: xs, y :: ys, 0 => by simp [zipW]
  | x :: xs, y :: ys, i + 1 => by
    simp only [zipW, List.getElem?_cons_succ, zipW_get xs ys i]
theorem lk_enumL {ρ : List Addr} {H : Hp} {xs : List W} {p : Addr} {vs : List V} (ho : Out C ρ p) (hp : H p = some (.lst vs)) (r : Reps C ρ H xs vs) : LkA C ρ H (.row (enumW 0 xs)) (Ite X.K p) := by
  have main : ∀ C : Cn, Out C ρ p → Reps C ρ H xs vs → Lk C ρ H (.row (enumW 0 xs)) (Ite X.K p) := fun C ho r ρ2 H2 s i o g S e => by
    simp only [srcAt, Option.some.injEq, enumW_get, Nat.zero_add] at e
    have hp2 := g.keep p _ ho.1 hp (fun _ q => by cases q)
    subst e
    cases ex : xs[i]? with
    | none =>
      refine ⟨vs, SqL.of hp2, ?_⟩
      rw [← r.length]
      exact List.getElem?_eq_none_iff.mp ex
    | some x =>
      obtain ⟨v, e1, r1⟩ := r.get ex
      refine ⟨⟨vs, v, SqL.of hp2, e1⟩, fun u H3 ⟨T, y, e3, hn, e4, hy⟩ => ?_⟩
      subst e3; subst e4
      have := hy vs (SqL.of hp2)
      rw [e1] at this
      cases this
      exact ⟨Gr.new hn, S.new hn, Rep.newT S hn (Reps.mk Rep.mkI (Reps.one (r1.mono g)))⟩
  exact ⟨main C ho r, fun D hD => main _ (ho.hide hD hp) (Reps.hide hD _ _ r)⟩
theorem lk_enumE {ρ : List Addr} {H : Hp} {n : Nat} {p : Addr} (hp : ρ[n]? = some p) : LkA C ρ H (.liveE n) (Ite X.K p) := by
  have main : ∀ C : Cn, Lk C ρ H (.liveE n) (Ite X.K p) := fun C ρ2 H2 s i o g S e => by
    simp only [srcAt, liveAt] at e
    split at e
    · rename_i xs es
      simp only [Option.map_some, Option.some.injEq] at e
      subst e
      obtain ⟨p', vs, a1, a2, a3⟩ := S.at_ n xs es
      rw [g.get hp] at a1; cases a1
      cases ex : xs[i]? with
      | none =>
        refine ⟨vs, SqL.of a2, ?_⟩
        rw [← a3.length]
        exact List.getElem?_eq_none_iff.mp ex
      | some x =>
        obtain ⟨v, e1, r1⟩ := a3.get ex
        refine ⟨⟨vs, v, SqL.of a2, e1⟩, fun u H3 ⟨T, y, e3, hn, e4, hy⟩ => ?_⟩
        subst e3; subst e4
        have := hy vs (SqL.of a2)
        rw [e1] at this
        cases this
        exact ⟨Gr.new hn, S.new hn, Rep.newT S hn (Reps.mk Rep.mkI (Reps.one r1))⟩
    · simp at e
  exact ⟨main C, fun D _ => main _⟩
theorem lk_zipL {ρ : List Addr} {H : Hp} {xs ys : List W} {p q : Addr} {vs us : List V} (ho : Out C ρ p) (hp : H p = some (.lst vs)) (r : Reps C ρ H xs vs) (ho2 : Out C ρ q) (hp2 : H q = some (.lst us)) (r2 : Reps C ρ H ys us) : LkA C ρ H (.row (zipW xs ys)) (Itz X.K p q) := by
  have main : ∀ C : Cn, Out C ρ p → Reps C ρ H xs vs → Out C ρ q → Reps C ρ H ys us → Lk C ρ H (.row (zipW xs ys)) (Itz X.K p q) := fun C ho r ho2 r2 ρ2 H2 s i o g S e => by
    simp only [srcAt, Option.some.injEq, zipW_get] at e
    have h1 := g.keep p _ ho.1 hp (fun _ q => by cases q)
    have h2 := g.keep q _ ho2.1 hp2 (fun _ q => by cases q)
    subst e
    cases ex : xs[i]? with
    | none => exact ⟨vs, us, SqL.of h1, SqL.of h2, .inl (by rw [← r.length]; exact List.getElem?_eq_none_iff.mp ex)⟩
    | some x =>
      cases ey : ys[i]? with
      | none => exact ⟨vs, us, SqL.of h1, SqL.of h2, .inr (by rw [← r2.length]; exact List.getElem?_eq_none_iff.mp ey)⟩
      | some y =>
        obtain ⟨v, e1, r1⟩ := r.get ex
        obtain ⟨u, e2, r3⟩ := r2.get ey
        refine ⟨⟨vs, us, v, u, SqL.of h1, SqL.of h2, e1, e2⟩, fun u' H3 ⟨T, a, b, e3, hn, e4, ha, hb⟩ => ?_⟩
        subst e3; subst e4
        have ea := ha vs (SqL.of h1)
        have eb := hb us (SqL.of h2)
        rw [e1] at ea; rw [e2] at eb
        cases ea; cases eb
        exact ⟨Gr.new hn, S.new hn, Rep.newT S hn (Reps.mk (r1.mono g) (Reps.one (r3.mono g)))⟩
  exact ⟨main C ho r ho2 r2, fun D hD => main _ (ho.hide hD hp) (Reps.hide hD _ _ r) (ho2.hide hD hp2) (Reps.hide hD _ _ r2)⟩
theorem lk_zipT {ρ : List Addr} {H : Hp} {xs ys : List W} {p q : Addr} {vs us : List V} (hX : X.K = C.K) (ho : RT C ρ H p vs) (r : Reps C ρ H xs vs) (ho2 : RT C ρ H q us) (r2 : Reps C ρ H ys us) : LkA C ρ H (.row (zipW xs ys)) (RZ.ItzT X.K p q) := by
  have main : ∀ C : Cn, X.K = C.K → RT C ρ H p vs → Reps C ρ H xs vs → RT C ρ H q us → Reps C ρ H ys us → Lk C ρ H (.row (zipW xs ys)) (RZ.ItzT X.K p q) := fun C hX ho r ho2 r2 ρ2 H2 s i o g S e => by
    simp only [srcAt, Option.some.injEq, zipW_get] at e
    have h1 : SqT X.K H2 p vs := hX ▸ (ho.mono g).sq
    have h2 : SqT X.K H2 q us := hX ▸ (ho2.mono g).sq
    subst e
    cases ex : xs[i]? with
    | none => exact ⟨vs, us, h1, h2, .inl (by rw [← r.length]; exact List.getElem?_eq_none_iff.mp ex)⟩
    | some x =>
      cases ey : ys[i]? with
      | none => exact ⟨vs, us, h1, h2, .inr (by rw [← r2.length]; exact List.getElem?_eq_none_iff.mp ey)⟩
      | some y =>
        obtain ⟨v, e1, r1⟩ := r.get ex
        obtain ⟨u, e2, r3⟩ := r2.get ey
        refine ⟨⟨vs, us, v, u, h1, h2, e1, e2⟩, fun u' H3 ⟨T, a, b, e3, hn, e4, ha, hb⟩ => ?_⟩
        subst e3; subst e4
        have ea := ha vs h1
        have eb := hb us h2
        rw [e1] at ea; rw [e2] at eb
        cases ea; cases eb
        exact ⟨Gr.new hn, S.new hn, Rep.newT S hn (Reps.mk (r1.mono g) (Reps.one (r3.mono g)))⟩
  have hid : ∀ {D : Addr} {p : Addr} {vs : List V}, Fre H D → RT C ρ H p vs → RT (C.hide D) ρ H p vs := fun {D p vs} hD ho => by
    rcases ho with ⟨o, q⟩ | q
    · obtain ⟨u, hu, hn⟩ := Rd.get q
      exact .inl ⟨o.hide hD hu hn, q⟩
    · exact .inr q
  exact ⟨main C hX ho r ho2 r2, fun D hD => main _ hX (hid hD ho) (Reps.hide hD _ _ r) (hid hD ho2) (Reps.hide hD _ _ r2)⟩
theorem s_itr {tg : Expr} {a : E} {ea : Expr} (ct : Ct X C P Nn d Wx) (ha : PE X ea (tE C P call Wx a)) : PI X tg ea (tI C P call Wx (.itr a)) := by
  refine ⟨fun pins st σ H R I ⟨ρ, s, env, eR, S, h⟩ => ?_⟩
  simp only [evI] at h
  cases ex : evE P call a env s with
  | err => exact (pi_list ha).run pins st σ H R I (tE.bad eR S h fun _ _ q => by rw [ex] at q; cases q)
  | exc c l s1 => exact (pi_list ha).run pins st σ H R I (tE.bad eR S h fun _ _ q => by rw [ex] at q; cases q)
  | ok x0 s0 =>
    cases x0 with
    | lst xs =>
      refine (pi_list ha).run pins st σ H R I (tE.ok eR S h ex fun ρ1 H1 v g eR1 S1 r h1 => ?_)
      simp only [Rep] at r
      obtain ⟨p, vs, rfl, o, hp, q⟩ := r
      exact ⟨p, rfl, ⟨vs, SqL.of hp⟩, ResG.here (Rl := LkA C) (a := .row xs) (s := s0) h1 S1 (lk_rowL o hp q)⟩
    | ref n =>
      refine (pi_list ha).run pins st σ H R I (tE.ok eR S h ex fun ρ1 H1 v g eR1 S1 r h1 => ?_)
      obtain ⟨p, ep, rfl⟩ := r.ref
      obtain ⟨vs, hp⟩ := S1.some (List.mem_of_getElem? ep)
      exact ⟨p, rfl, ⟨vs, SqL.of hp⟩, ResG.here (Rl := LkA C) (a := .live n) (s := s0) h1 S1 (lk_live ep)⟩
    | tup xs =>
      refine (pi_tup ha).run pins st σ H R I (tE.ok eR S h ex fun ρ1 H1 v g eR1 S1 r h1 => ?_)
      obtain ⟨p, vs, rfl, q, r2⟩ := r.tup
      exact ⟨p, rfl, ⟨vs, ct.hK ▸ q.sq⟩, ResG.here (Rl := LkA C) (a := .row xs) (s := s0) h1 S1 (lk_rowT ct.hK q r2)⟩
    | htup xs =>
      refine (pi_tup ha).run pins st σ H R I (tE.ok eR S h ex fun ρ1 H1 v g eR1 S1 r h1 => ?_)
      obtain ⟨p, vs, rfl, q, r2⟩ := (Rep.soft (.htup xs) _ r).tup
      exact ⟨p, rfl, ⟨vs, ct.hK ▸ q.sq⟩, ResG.here (Rl := LkA C) (a := .row xs) (s := s0) h1 S1 (lk_rowT ct.hK q r2)⟩
    | str l =>
      refine (pi_str ha).run pins st σ H R I (tE.ok eR S h ex fun ρ1 H1 v g eR1 S1 r h1 => ?_)
      exact ⟨_, r.str.1, ResG.here (Rl := LkA C) (a := .row (l.map fun c => .str [c])) (s := s0) h1 S1 (lk_rowS r.str.2)⟩
    | _ =>
      exfalso
      unfold G.bnd at h
      rw [ex] at h
      exact h
theorem tA.ok {a : E} {γ δ : Type} {Rl2 : List Addr → Hp → γ → δ → Prop} {f : List W → M γ} {ρ : List Addr} {H : Hp} {s : ST} {env : Env} {σ : L2.St} {Q : δ → Hp → Prop} {K : List V → Hp → Prop} {x0 : List W} {s0 : ST} (eR : EnvR C ρ H env σ) (S : SR C ρ H s)
    (h : ResG C Rl2 ρ H (G.bnd (evA P call a env) f s) Q (WE Wx σ)) (ex : evA P call a env s = .ok x0 s0)
    (k : ∀ ρ1 H1 v, Gr ρ H ρ1 H1 → EnvR C ρ1 H1 env σ → SR C ρ1 H1 s0 → Reps C ρ1 H1 x0 v → ResG C Rl2 ρ1 H1 (f x0 s0) Q (WE Wx σ) → K v H1) : tA C P call Wx a σ H K := by
  refine ⟨ρ, s, env, eR, S, ?_⟩
  unfold G.bnd at h
  rw [ex] at h ⊢
  exact fun ρ1 H1 v g S1 r => k ρ1 H1 v g (eR.mono g) S1 r (ResG.mono h g)
theorem tA.bad {a : E} {γ δ : Type} {Rl2 : List Addr → Hp → γ → δ → Prop} {f : List W → M γ} {ρ : List Addr} {H : Hp} {s : ST} {env : Env} {σ : L2.St} {Q : δ → Hp → Prop} {K : List V → Hp → Prop} (eR : EnvR C ρ H env σ) (S : SR C ρ H s)
    (h : ResG C Rl2 ρ H (G.bnd (evA P call a env) f s) Q (WE Wx σ)) (ex : ∀ x0 s0, evA P call a env s ≠ .ok x0 s0) : tA C P call Wx a σ H K := by
  refine ⟨ρ, s, env, eR, S, ?_⟩
  unfold G.bnd at h
  cases e : evA P call a env s with
  | ok x0 s0 => exact (ex x0 s0 e).elim
  | exc c l s1 => rw [e] at h; exact h
  | err => rw [e] at h; exact h
theorem evA_nil {env : Env} {s s0 : ST} {xs : List W} (h : evA P call .nil env s = .ok xs s0) : xs = [] := by
  simp only [evA, ret, R.ok.injEq] at h
  exact h.1.symm
theorem evA_cons {a b : E} {env : Env} {s s0 : ST} {xs : List W} (h : evA P call (.cons a b) env s = .ok xs s0) : ∃ x ys s1, xs = x :: ys ∧ evA P call b env s1 = .ok ys s0 := by
  simp only [evA, G.bnd] at h
  split at h <;> try (cases h; done)
  rename_i x s1 _
  split at h <;> try (cases h; done)
  rename_i ys s2 e
  simp only [ret, R.ok.injEq] at h
  obtain ⟨h1, h2⟩ := h
  exact ⟨x, ys, s1, h1.symm, by rw [e, h2]⟩
theorem s_enum {elts : List Expr} {kk : Nat} {tpos : Pos} {a : E} {ea : Expr} {p pos : Pos} (ct : Ct X C P Nn d Wx) (hg : Gl X "enumerate") (ha : PE X ea (tE C P call Wx a)) (hs : starEach [ea] X.env = [(false, eval ea X.env)]) :
    PI X (.Tuple elts kk tpos) (.Call (.Name "enumerate" p) [ea] [] pos) (tI C P call Wx (.enum a)) := by
  have hl : PA X [ea] (tA C P call Wx (.cons a .nil)) := s_cons ha s_nil hs
  refine ⟨fun pins st σ H R I ⟨ρ, s, env, eR, S, h⟩ => (pi_enum (elts := elts) (kk := kk) (tpos := tpos) (p := p) (pos := pos) hg (ct.blt _ (by decide +kernel)) hl hs).run pins st σ H R I ?_⟩
  have h' : ResG C (LkA C) ρ H (G.bnd (evA P call (.cons a .nil) env) (fun xs => match xs with | [x] => opt (srcEnum x) | _ => fail) s) R (WE Wx σ) := by
    simp only [evI] at h
    simp only [evA]
    unfold G.bnd at h
    unfold G.bnd ret
    cases e : evE P call a env s <;> simp only [e] at h ⊢ <;> exact h
  refine tA.bndI eR S h' fun ρ1 H1 s1 x v g1 eR1 S1 r1 h1 => ?_
  split at h1
  · rename_i x
    obtain ⟨v, rfl, r⟩ := rep1 r1
    obtain ⟨src, e1, h2⟩ := h1.opt
    cases x <;> simp only [srcEnum, Option.some.injEq, reduceCtorEq] at e1
    · subst e1
      simp only [Rep] at r
      obtain ⟨p, vs, rfl, o, hp, q⟩ := r
      exact ⟨p, vs, rfl, SqL.of hp, ResG.here (Rl := LkA C) h2 S1 (lk_enumL o hp q)⟩
    · subst e1
      obtain ⟨p, ep, rfl⟩ := r.ref
      obtain ⟨vs, hp⟩ := S1.some (List.mem_of_getElem? ep)
      exact ⟨p, vs, rfl, SqL.of hp, ResG.here (Rl := LkA C) h2 S1 (lk_enumE ep)⟩
  · exact h1.elim
theorem s_zip {elts : List Expr} {kk : Nat} {tpos : Pos} {a b : E} {ea eb : Expr} {p pos : Pos} (ct : Ct X C P Nn d Wx) (hg : Gl X "zip") (ha : PE X ea (tE C P call Wx a)) (hb : PE X eb (tE C P call Wx b)) (hs : starEach [ea, eb] X.env = (false, eval ea X.env) :: starEach [eb] X.env)
    (hs2 : starEach [eb] X.env = (false, eval eb X.env) :: starEach [] X.env) (hpl : (backTo pos (starEach [eb] X.env)).any (·.1) = false) : PI X (.Tuple elts kk tpos) (.Call (.Name "zip" p) [ea, eb] [] pos) (tI C P call Wx (.zip a b)) := by
  have hl : PA X [ea, eb] (tA C P call Wx (.cons a (.cons b .nil))) := s_cons ha (s_cons hb s_nil hs2) hs
  refine ⟨fun pins st σ H R I ⟨ρ, s, env, eR, S, h⟩ => (RZ.pi_zipA (elts := elts) (kk := kk) (tpos := tpos) (p := p) (pos := pos) hg (ct.blt _ (by decide +kernel)) hl hs hpl).run pins st σ H R I ?_⟩
  have h' : ResG C (LkA C) ρ H (G.bnd (evA P call (.cons a (.cons b .nil)) env) (fun xs => match xs with | [x, y] => rd fun s => srcZip s (soft x) (soft y) | _ => fail) s) R (WE Wx σ) := by
    simp only [evI] at h
    simp only [evA]
    unfold G.bnd at h
    unfold G.bnd ret
    cases e : evE P call a env s with
    | ok x s1 =>
      simp only [e] at h ⊢
      cases e2 : evE P call b env s1 <;> simp only [e2] at h ⊢ <;> exact h
    | exc c l s1 => simp only [e] at h ⊢; exact h
    | err => simp only [e] at h
             exact h.elim
  refine tA.bndI eR S h' fun ρ1 H1 s1 x v g1 eR1 S1 r1 h1 => ?_
  split at h1
  · rename_i x y
    obtain ⟨v1, vv, rfl, p1, p2⟩ := r1.cons'
    obtain ⟨v2, rfl, p3⟩ := rep1 p2
    have p1 := Rep.soft _ _ p1
    have p3 := Rep.soft _ _ p3
    obtain ⟨src, e1, h2⟩ := h1.rd
    revert p1 p3 e1
    generalize soft x = x'
    generalize soft y = y'
    intro p1 p3 e1
    cases x' <;> cases y' <;> simp only [srcZip, Option.some.injEq, reduceCtorEq] at e1
    · subst e1
      obtain ⟨pa, vs, rfl, qa, ra⟩ := p1.tup
      obtain ⟨pb, us, rfl, qb, rb⟩ := p3.tup
      exact ⟨pa, pb, vs, us, rfl, .inr ⟨ct.hK ▸ qa.sq, ct.hK ▸ qb.sq, ResG.here (Rl := LkA C) h2 S1 (lk_zipT ct.hK qa ra qb rb)⟩⟩
    · subst e1
      simp only [Rep] at p1 p3
      obtain ⟨pa, vs, rfl, oa, ha', qa⟩ := p1
      obtain ⟨pb, us, rfl, ob, hb', qb⟩ := p3
      exact ⟨pa, pb, vs, us, rfl, .inl ⟨SqL.of ha', SqL.of hb', ResG.here (Rl := LkA C) h2 S1 (lk_zipL oa ha' qa ob hb' qb)⟩⟩
  · exact h1.elim
theorem s_rng1 {tg : Expr} {a : E} {e : Expr} {p pos : Pos} (ct : Ct X C P Nn d Wx) (hg : Gl X "range") (hl : PA X [e] (tA C P call Wx (.cons a .nil))) (hs : starEach [e] X.env = [(false, eval e X.env)]) :
    PI X tg (.Call (.Name "range" p) [e] [] pos) (tI C P call Wx (.rng (.cons a .nil))) := by
  refine ⟨fun pins st σ H R I ⟨ρ, s, env, eR, S, h⟩ => ?_⟩
  have rule := pi_range1 (tg := tg) (p := p) (pos := pos) hg (ct.blt _ (by decide +kernel)) hl hs
  simp only [evI] at h
  cases ex : evA P call (.cons a .nil) env s with
  | err => exact rule.run pins st σ H R I (tA.bad eR S h fun _ _ q => by rw [ex] at q; cases q)
  | exc c l s1 => exact rule.run pins st σ H R I (tA.bad eR S h fun _ _ q => by rw [ex] at q; cases q)
  | ok xs s0 =>
    refine rule.run pins st σ H R I (tA.ok eR S h ex fun ρ1 H1 v g eR1 S1 r h1 => ?_)
    obtain ⟨x, ys, s1, rfl, e2⟩ := evA_cons ex
    have := evA_nil e2; subst this
    obtain ⟨zs, e3, h2⟩ := h1.pureO
    cases x <;> simp only [rngOf, reduceCtorEq] at e3
    rename_i j
    split at e3
    · rename_i hb
      cases e3
      obtain ⟨v, rfl, r2⟩ := rep1 r
      rw [r2.int]
      have : small = 1000000000 := rfl
      exact ⟨j, rfl, by omega, by omega, ResG.here (Rl := LkA C) (a := .row (rngW 0 j.toNat)) (s := s0) h2 S1 (lk_rng 0 _)⟩
    · cases e3
theorem s_rng2 {tg : Expr} {a b : E} {e e' : Expr} {p pos : Pos} (ct : Ct X C P Nn d Wx) (hg : Gl X "range") (hl : PA X [e, e'] (tA C P call Wx (.cons a (.cons b .nil)))) (hs : starEach [e, e'] X.env = [(false, eval e X.env), (false, eval e' X.env)])
    (hs2 : starEach [e'] X.env = [(false, eval e' X.env)]) : PI X tg (.Call (.Name "range" p) [e, e'] [] pos) (tI C P call Wx (.rng (.cons a (.cons b .nil)))) := by
  refine ⟨fun pins st σ H R I ⟨ρ, s, env, eR, S, h⟩ => ?_⟩
  have rule := pi_range2 (tg := tg) (p := p) (pos := pos) hg (ct.blt _ (by decide +kernel)) hl hs hs2
  simp only [evI] at h
  cases ex : evA P call (.cons a (.cons b .nil)) env s with
  | err => exact rule.run pins st σ H R I (tA.bad eR S h fun _ _ q => by rw [ex] at q; cases q)
  | exc c l s1 => exact rule.run pins st σ H R I (tA.bad eR S h fun _ _ q => by rw [ex] at q; cases q)
  | ok xs s0 =>
    refine rule.run pins st σ H R I (tA.ok eR S h ex fun ρ1 H1 v g eR1 S1 r h1 => ?_)
    obtain ⟨x, ys, s1, rfl, e2⟩ := evA_cons ex
    obtain ⟨y, zs0, s2, rfl, e2'⟩ := evA_cons e2
    have := evA_nil e2'; subst this
    obtain ⟨zs, e3, h2⟩ := h1.pureO
    cases x <;> cases y <;> simp only [rngOf, reduceCtorEq] at e3
    rename_i i j
    split at e3
    · rename_i hb
      cases e3
      obtain ⟨v, us, rfl, r2, r3⟩ := r.cons'
      obtain ⟨v', rfl, r4⟩ := rep1 r3
      rw [r2.int, r4.int]
      have : small = 1000000000 := rfl
      exact ⟨i, j, rfl, ⟨by omega, by omega, by omega, by omega⟩, ResG.here (Rl := LkA C) (a := .row (rngW i (j - i).toNat)) (s := s0) h2 S1 (lk_rng i _)⟩
    · cases e3
/-! ### targets -/
mutual
def ckT (sc : Scope) (cl : Bool) (N : List Str) : T → Expr → Bool
  | .v i, .Name x _ => N[i]? == some x && (sc.names.lookup x == some .local || (cl && sc.names.lookup x == some .cell))
  | .cons a b, .Tuple (e :: es) _ _ => ckT sc cl N a e && ckTs sc cl N b es
  | _, _ => false
def ckTs (sc : Scope) (cl : Bool) (N : List Str) : T → List Expr → Bool
  | .nil, [] => true
  | .cons a b, e :: es => ckT sc cl N a e && ckTs sc cl N b es
  | _, _ => false
end
/-- the slots that a target writes -/
def tgV : T → List Nat
  | .v i => [i]
  | .nil => []
  | .cons a b => tgV a ++ tgV b
theorem wipe_set_gen (σ : L2.St) (i : Nat) (v : Option V) : ∀ js : List Nat, L2.wipe (σ.set i v) js = if i ∈ js then L2.wipe σ js else (L2.wipe σ js).set i v
  | [] => by simp [L2.wipe]
  | j :: js => by
    simp only [L2.wipe, wipe_set_gen σ i v js]
    by_cases h : i ∈ js
    · simp [h]
    · by_cases hj : i = j
      · subst hj; simp [h, L2.wipe]
      · simp only [h, if_false, List.mem_cons, hj, or_self, List.set_comm _ _ hj]
def Keeps (t : T) (σ σ' : L2.St) : Prop := ∀ own : List Nat, (∀ i ∈ tgV t, i ∈ own) → L2.wipe σ' own = L2.wipe σ own
def tG (C : Cn) (t : T) : TG := fun v σ H Q => ∃ ρ s env w env', EnvR C ρ H env σ ∧ SR C ρ H s ∧ Rep C ρ H w v ∧ asg t w env = some env' ∧ ∀ σ', EnvR C ρ H env' σ' → Keeps t σ σ' → Q σ' H
def tGs (C : Cn) (t : T) : TGs := fun vs σ H Q => ∃ ρ s env ws env', EnvR C ρ H env σ ∧ SR C ρ H s ∧ Reps C ρ H ws vs ∧ asgs t ws env = some env' ∧ ∀ σ', EnvR C ρ H env' σ' → Keeps t σ σ' → Q σ' H
theorem _root_.L2.PG.imp {e : Expr} {t t' : TG} (h : PG X e t) (k : ∀ v σ H Q, t' v σ H Q → t v σ H Q) : PG X e t' := ⟨fun pins s σ H v u Q I r q => h.run pins s σ H v u Q I r (k v σ H Q q)⟩
theorem _root_.L2.PGs.imp {e : List Expr} {t t' : TGs} (h : PGs X e t) (k : ∀ v σ H Q, t' v σ H Q → t v σ H Q) : PGs X e t' := ⟨fun pins s σ H v u Q I r q => h.run pins s σ H v u Q I r (k v σ H Q q)⟩
theorem asgs_len : ∀ {t : T} {ws : List W} {env env' : Env} {es : List Expr} {sc : Scope} {cl : Bool} {N : List Str}, ckTs sc cl N t es = true → asgs t ws env = some env' → ws.length = es.length
  | .nil, [], _, _, [], _, _, _, _, _ => rfl
  | .cons a b, w :: ws, env, env', e :: es, sc, cl, N, h, q => by
    simp only [ckTs, Bool.and_eq_true] at h
    simp only [asgs, Option.bind_eq_some_iff] at q
    obtain ⟨env1, _, q⟩ := q
    simp [asgs_len h.2 q]
  | .nil, _ :: _, _, _, _, _, _, _, _, q => by simp [asgs] at q
  | .nil, [], _, _, _ :: _, _, _, _, h, _ => by simp [ckTs] at h
  | .cons _ _, [], _, _, _, _, _, _, _, q => by simp [asgs] at q
  | .cons _ _, _ :: _, _, _, [], _, _, _, h, _ => by simp [ckTs] at h
  | .v _, _, _, _, _, _, _, _, h, _ => by simp [ckTs] at h
theorem asgEach {e : Expr} {es : List Expr} {env : PySem.Env} {t : T} {sc : Scope} {cl : Bool} {N : List Str} (h : ckT sc cl N t e = true) : assignEach (e :: es) env = (false, assign e env) :: assignEach es env := by
  cases t <;> cases e <;> first | rfl | (simp [ckT] at h; done)
theorem asgEach_len : ∀ {t : T} {es : List Expr} {sc : Scope} {cl : Bool} {N : List Str} (env : PySem.Env), ckTs sc cl N t es = true → (assignEach es env).length = es.length ∧ (assignEach es env).findIdx? (·.1) = none
  | .nil, [], _, _, _, env, _ => ⟨rfl, rfl⟩
  | .cons a b, e :: es, sc, cl, N, env, h => by
    simp only [ckTs, Bool.and_eq_true] at h
    obtain ⟨h1, h2⟩ := asgEach_len env h.2
    rw [asgEach h.1]
    exact ⟨by simp [h1], by simp [List.findIdx?_cons, h2]⟩
  | .nil, _ :: _, _, _, _, _, h => by simp [ckTs] at h
  | .cons _ _, [], _, _, _, _, h => by simp [ckTs] at h
  | .v _, _, _, _, _, _, h => by simp [ckTs] at h
mutual
theorem s_tg {sc : Scope} {cl : Bool} (hK : X.K = C.K) (hN : X.N.Nodup) (hc : X.calm = true) (Q : Sc X sc cl) : ∀ (t : T) (e : Expr), ckT sc cl X.N t e = true → PG X e (tG C t)
  | .v i, .Name x p, h => by
    simp only [ckT, Bool.and_eq_true, beq_iff_eq, Bool.or_eq_true] at h
    obtain ⟨h1, h2⟩ := Q.st x h.2
    refine (pg_name hN h.1 h1 h2).imp fun v σ H R ⟨ρ, s, env, w, env', eR, S, r, e, k⟩ => ?_
    simp only [asg] at e
    split at e
    · cases e
      exact k _ (eR.set r) fun own ho => by rw [wipe_set_gen, if_pos (ho i (by simp [tgV]))]
    · cases e
  | .cons a b, .Tuple (e :: es) kk p, h => by
    simp only [ckT, Bool.and_eq_true] at h
    obtain ⟨h1, h2⟩ := asgEach_len X.env h.2
    have h3 : ckTs sc cl X.N (.cons a b) (e :: es) = true := by simp only [ckTs, Bool.and_eq_true]; exact h
    refine (pg_tup hc (pgs_cons (s_tg hK hN hc Q a e h.1) (s_tgs hK hN hc Q b es h.2) (by rw [asgEach h.1]; rfl)) rfl (asgEach_len X.env h3).2).imp fun v σ H R ⟨ρ, s, env, w, env', eR, S, r, e, k⟩ => ?_
    obtain ⟨ws, e, r⟩ : ∃ ws, asg (.cons a b) (.tup ws) env = some env' ∧ Rep C ρ H (.tup ws) v := by
      cases w with
      | tup ws => exact ⟨ws, e, r⟩
      | htup ws =>
        refine ⟨ws, ?_, Rep.soft (.htup ws) _ r⟩
        cases ws with
        | nil => simp [asg] at e
        | cons w ws => simpa only [asg] using e
      | _ => simp [asg] at e
    cases ws with
    | nil => simp [asg] at e
    | cons w ws =>
      simp only [asg, Option.bind_eq_some_iff] at e
      obtain ⟨env1, e1, e2⟩ := e
      obtain ⟨pp, vs, rfl, q, r2⟩ := r.tup
      obtain ⟨v, us, rfl, r3, r4⟩ := r2.cons'
      refine ⟨pp, v :: us, rfl, hK ▸ q.sq, ?_, v, us, rfl, ⟨ρ, s, env, w, env1, eR, S, r3, e1, fun σ' eR' kp => ⟨ρ, s, env1, ws, env', eR', S, r4, e2, fun σ2 eR2 kp2 => k σ2 eR2 fun own ho => (kp2 own fun i hi => ho i (by simp [tgV, hi])).trans (kp own fun i hi => ho i (by simp [tgV, hi]))⟩⟩⟩
      rw [(asgEach_len X.env h3).1, List.length_cons, List.length_cons, ← r4.length, asgs_len h.2 e2]
  | .nil, _, h => by simp [ckT] at h
  | .v _, .Tuple .., h => by simp [ckT] at h
  | .cons _ _, .Tuple [] _ _, h => by simp [ckT] at h
  | .cons _ _, .Name .., h => by simp [ckT] at h
  | .v _, .BoolOp .., h | .v _, .NamedExpr .., h | .v _, .BinOp .., h | .v _, .UnaryOp .., h | .v _, .Lambda .., h | .v _, .IfExp .., h | .v _, .Dict .., h | .v _, .Set .., h | .v _, .ListComp .., h | .v _, .SetComp .., h | .v _, .DictComp .., h | .v _, .GeneratorExp .., h | .v _, .Await .., h | .v _, .Yield .., h | .v _, .YieldFrom .., h | .v _, .Compare .., h | .v _, .Call .., h | .v _, .FormattedValue .., h | .v _, .JoinedStr .., h | .v _, .Constant .., h | .v _, .Attribute .., h | .v _, .Subscript .., h | .v _, .Starred .., h | .v _, .List .., h | .v _, .Slice .., h => by simp [ckT] at h
  | .cons _ _, .BoolOp .., h | .cons _ _, .NamedExpr .., h | .cons _ _, .BinOp .., h | .cons _ _, .UnaryOp .., h | .cons _ _, .Lambda .., h | .cons _ _, .IfExp .., h | .cons _ _, .Dict .., h | .cons _ _, .Set .., h | .cons _ _, .ListComp .., h | .cons _ _, .SetComp .., h | .cons _ _, .DictComp .., h | .cons _ _, .GeneratorExp .., h | .cons _ _, .Await .., h | .cons _ _, .Yield .., h | .cons _ _, .YieldFrom .., h | .cons _ _, .Compare .., h | .cons _ _, .Call .., h | .cons _ _, .FormattedValue .., h | .cons _ _, .JoinedStr .., h | .cons _ _, .Constant .., h | .cons _ _, .Attribute .., h | .cons _ _, .Subscript .., h | .cons _ _, .Starred .., h | .cons _ _, .List .., h | .cons _ _, .Slice .., h => by simp [ckT] at h
theorem s_tgs {sc : Scope} {cl : Bool} (hK : X.K = C.K) (hN : X.N.Nodup) (hc : X.calm = true) (Q : Sc X sc cl) : ∀ (t : T) (es : List Expr), ckTs sc cl X.N t es = true → PGs X es (tGs C t)
  | .nil, [], _ => by
    refine pgs_nil.imp fun vs σ H R ⟨ρ, s, env, ws, env', eR, S, r, e, k⟩ => ?_
    cases ws with
    | nil => simp only [asgs, Option.some.injEq] at e; subst e; exact ⟨r.nil', k σ eR fun _ _ => rfl⟩
    | cons _ _ => simp [asgs] at e
  | .cons a b, e :: es, h => by
    simp only [ckTs, Bool.and_eq_true] at h
    refine (pgs_cons (s_tg hK hN hc Q a e h.1) (s_tgs hK hN hc Q b es h.2) (by rw [asgEach h.1]; rfl)).imp fun vs σ H R ⟨ρ, s, env, ws, env', eR, S, r, e, k⟩ => ?_
    cases ws with
    | nil => simp [asgs] at e
    | cons w ws =>
      simp only [asgs, Option.bind_eq_some_iff] at e
      obtain ⟨env1, e1, e2⟩ := e
      obtain ⟨v, us, rfl, r3, r4⟩ := r.cons'
      exact ⟨v, us, rfl, ⟨ρ, s, env, w, env1, eR, S, r3, e1, fun σ' eR' kp => ⟨ρ, s, env1, ws, env', eR', S, r4, e2, fun σ2 eR2 kp2 => k σ2 eR2 fun own ho => (kp2 own fun i hi => ho i (by simp [tgV, hi])).trans (kp own fun i hi => ho i (by simp [tgV, hi]))⟩⟩⟩
  | .nil, _ :: _, h => by simp [ckTs] at h
  | .cons _ _, [], h => by simp [ckTs] at h
  | .v _, _, h => by simp [ckTs] at h
end
end
end G

set_option Elab.async false
set_option linter.all false
set_option autoImplicit false
set_option maxRecDepth 100000
set_option maxHeartbeats 2000000
/-! G8: comprehensions. -/
namespace G
open PySem PySem.Spec PyProof.Rows L2
section
variable {X : Cx} {C : Cn} {P : Pg} {Nn : Nm} {d : Nat} {Wx : WX} {call : Nat → List W → M W}
abbrev Cn.at (C : Cn) (xi : Addr → Prop) : Cn := { C with xi := xi }
abbrev WF : WX := fun _ _ _ _ => False
/-- the rounds by index -/
def compI (src : Src) (f : W → M (Option W)) : Nat → Nat → ST → R (List W)
  | 0, _, _ => .err
  | m + 1, i, s => match srcAt src i s with
    | none => .err
    | some none => .ok [] s
    | some (some x) => match f x s with
      | .ok o s1 => match compI src f m (i + 1) s1 with
        | .ok ys s2 => .ok (ocons o ys) s2
        | r => r
      | _ => .err
theorem comp_I (f : W → M (Option W)) (all : List W) : ∀ (xs : List W) (i : Nat) (s s' : ST) (ys : List W), all.drop i = xs → comp f xs s = .ok ys s' → ∃ m, compI (.row all) f m i s = .ok ys s'
  | [], i, s, s', ys, hd, h => by
    simp only [comp, ret, R.ok.injEq] at h
    have hl : all.length ≤ i := List.drop_eq_nil_iff.mp hd
    refine ⟨1, ?_⟩
    simp only [compI, srcAt, List.getElem?_eq_none hl]
    rw [h.1, h.2]
  | x :: xs, i, s, s', ys, hd, h => by
    have hx : all[i]? = some x := by
      have := congrArg (fun l => l[0]?) hd
      simpa [List.getElem?_drop] using this
    have hd' : all.drop (i + 1) = xs := by
      have := congrArg (List.drop 1) hd
      simpa [List.drop_drop] using this
    simp only [comp, bnd] at h
    cases e : f x s with
    | ok o s1 =>
      rw [e] at h
      simp only at h
      cases e2 : comp f xs s1 with
      | ok zs s2 =>
        rw [e2] at h
        simp only [ret, R.ok.injEq] at h
        obtain ⟨m, hm⟩ := comp_I f all xs (i + 1) s1 s2 zs hd' e2
        refine ⟨m + 1, ?_⟩
        simp only [compI, srcAt, hx, e, hm]
        rw [← h.1, ← h.2]
      | exc c l s2 => rw [e2] at h; cases h
      | err => rw [e2] at h; cases h
    | exc c l s1 => rw [e] at h; cases h
    | err => rw [e] at h; cases h
theorem compL_I (f : W → M (Option W)) (src : Src) (g : Nat → W → W) (n : Nat) (hs : ∀ i s, srcAt src i s = (liveAt n i s).map fun o => o.map (g i)) : ∀ (k i : Nat) (s s' : ST) (ys : List W), compL g f n k i s = .ok ys s' → compI src f k i s = .ok ys s'
  | 0, i, s, s', ys, h => by simp [compL, fail] at h
  | k + 1, i, s, s', ys, h => by
    simp only [compL, bnd, rd] at h
    simp only [compI, hs]
    cases e0 : liveAt n i s with
    | none => rw [e0] at h; cases h
    | some o =>
      rw [e0] at h
      cases o with
      | none => exact h
      | some x =>
        simp only [Option.map_some]
        simp only [bnd] at h
        cases e : f (g i x) s with
        | ok o s1 =>
          rw [e] at h
          simp only at h
          cases e2 : compL g f n k (i + 1) s1 with
          | ok zs s2 =>
            rw [e2] at h
            simp only [ret, R.ok.injEq] at h
            simp only [compL_I f src g n hs k (i + 1) s1 s2 zs e2, ← h.1, ← h.2]
          | exc c l s2 => rw [e2] at h; cases h
          | err => rw [e2] at h; cases h
        | exc c l s1 => rw [e] at h; cases h
        | err => rw [e] at h; cases h
theorem compS_I {f : W → M (Option W)} {fuel : Nat} {src : Src} {s s' : ST} {ys : List W} (h : compS f fuel src s = .ok ys s') : ∃ m, compI src f m 0 s = .ok ys s' := by
  cases src with
  | row xs => exact comp_I f xs xs 0 s s' ys rfl h
  | live n => exact ⟨fuel, compL_I f _ _ n (fun i s => by simp only [srcAt]; cases liveAt n i s with | none => rfl | some o => cases o <;> rfl) fuel 0 s s' ys h⟩
  | liveE n => exact ⟨fuel, compL_I f _ _ n (fun i s => rfl) fuel 0 s s' ys h⟩
/-- tests one behind the other -/
def tBs (C : Cn) (P : Pg) (call : Nat → List W → M W) (Wx : WX) (ir : E) : TT := fun σ H Q => ∃ ρ s env, EnvR C ρ H env σ ∧ SR C ρ H s ∧ ResG C BoolR ρ H (evB P call ir env s) Q (WE Wx σ)
theorem _root_.L2.PTs.imp {e : List Expr} {t t' : TT} (h : PTs X e t) (k : ∀ σ H Q, t' σ H Q → t σ H Q) : PTs X e t' := ⟨fun pins s σ H Q I q => h.run pins s σ H Q I (k σ H Q q)⟩
theorem s_bs0 : PTs X [] (tBs C P call Wx .nil) := by
  refine pts_nil.imp fun σ H Q ⟨ρ, s, env, eR, S, h⟩ => ?_
  simp only [evB] at h
  exact ResG.here (Rl := BoolR) (a := true) (v := true) h S rfl
theorem s_bs1 {a : E} {ea : Expr} (ha : PT X ea (tT C P call Wx a)) : PTs X [ea] (tBs C P call Wx (.cons a .nil)) := by
  refine (pts_one ha).imp fun σ H Q ⟨ρ, s, env, eR, S, h⟩ => ?_
  simp only [evB] at h
  refine tT.bnd eR S rfl h (fun x s hx => ?_) fun ρ1 H1 s1 k g1 eR1 S1 h1 => ?_
  · cases x <;> first | rfl | exact (hx _ rfl).elim
  · cases k with
    | true => exact ResG.here (Rl := BoolR) (a := true) (v := true) h1 S1 rfl
    | false => exact ResG.here (Rl := BoolR) (a := false) (v := false) h1 S1 rfl
theorem wipe_idem (σ : L2.St) (own : List Nat) : L2.wipe (L2.wipe σ own) own = L2.wipe σ own := by
  have set_all : ∀ (js : List Nat) (τ : L2.St) (i : Nat), i ∈ js → L2.wipe (τ.set i none) js = L2.wipe τ js := fun js τ i h => by rw [wipe_set_gen, if_pos h]
  have : ∀ (is : List Nat), (∀ i ∈ is, i ∈ own) → L2.wipe (L2.wipe σ is) own = L2.wipe σ own := fun is => by
    induction is with
    | nil => intro _; rfl
    | cons i is ih =>
      intro h
      simp only [L2.wipe]
      rw [set_all own _ i (h i List.mem_cons_self)]
      exact ih fun j hj => h j (List.mem_cons_of_mem _ hj)
  exact this own fun _ h => h
theorem PE.ex {ι : Type} {e : Expr} {t : ι → TE} (h : ∀ i, PE X e (t i)) : PE X e (fun σ H Q => ∃ i, t i σ H Q) := ⟨fun pins s σ H Q I ⟨i, q⟩ => (h i).run pins s σ H Q I q⟩
theorem PTs.ex {ι : Type} {e : List Expr} {t : ι → TT} (h : ∀ i, PTs X e (t i)) : PTs X e (fun σ H Q => ∃ i, t i σ H Q) := ⟨fun pins s σ H Q I ⟨i, q⟩ => (h i).run pins s σ H Q I q⟩
theorem PG.ex {ι : Type} {e : Expr} {t : ι → TG} (h : ∀ i, PG X e (t i)) : PG X e (fun v σ H Q => ∃ i, t i v σ H Q) := ⟨fun pins s σ H v u Q I r ⟨i, q⟩ => (h i).run pins s σ H v u Q I r q⟩
theorem EnvR.hide {ρ : List Addr} {H : Hp} {env : Env} {σ : L2.St} {D : Addr} (e : EnvR C ρ H env σ) (hD : H D = none) : EnvR (C.hide D) ρ H env σ := ⟨e.len, fun i w h => by
  obtain ⟨v, h1, r⟩ := e.at_ i w h
  exact ⟨v, h1, Rep.hide (Fre.of hD) _ _ r⟩⟩
def stepF (P : Pg) (call : Nat → List W → M W) (t : T) (ifs e : E) (own : List Nat) (env : Env) : W → M (Option W) := fun w =>
  match asg t w (wipes env own) with
  | some env' => bnd (evB P call ifs env') fun r => if r then bnd (evE P call e env') fun y => ret (some y) else ret none
  | none => fail
theorem i_lc {t : T} {it ifs e : E} {own : List Nat} (hown : ∀ i ∈ tgV t, i ∈ own) {σ : L2.St} {H : Hp} {Q : VK} (h : tE C P call Wx (.lc t it ifs e own) σ H Q) :
    tLc (tI C P call Wx it) (fun v σ H Q => ∃ xi, tG (C.at xi) t v σ H Q) (fun σ H Q => ∃ xi, tBs (C.at xi) P call WF ifs σ H Q) (fun σ H Q => ∃ xi, tE (C.at xi) P call WF e σ H Q) own σ H Q := by
  obtain ⟨ρ, s, env, eR, S, h⟩ := h
  simp only [evE] at h
  refine ⟨ρ, s, env, eR, S, (ResG.bnd (Rl := LkA C) h).imp fun J H1 ⟨ρ1, s1, src, g1, S1, lk, h1⟩ => ?_⟩
  intro D hD
  -- the rounds came to rows
  obtain ⟨ys, s2, hcomp, hline, h1'⟩ : ∃ ys s2, compS (stepF P call t ifs e own env) P.fuel src s1 = .ok ys s2 ∧ ys.length ≤ line ∧ ResG C (RepR C) ρ1 H1 (.ok (.lst ys) s2) Q (WE Wx σ) := by
    have h1 : ResG C (RepR C) ρ1 H1 (G.bnd (noexc (fits (compS (stepF P call t ifs e own env) P.fuel src))) (fun ys => ret (.lst ys)) s1) Q (WE Wx σ) := h1
    unfold G.bnd noexc fits G.bnd at h1
    cases e0 : compS (stepF P call t ifs e own env) P.fuel src s1 with
    | ok ys s2 =>
      rw [e0] at h1
      simp only at h1
      by_cases hl : ys.length ≤ line
      · rw [if_pos hl] at h1
        exact ⟨ys, s2, rfl, hl, h1⟩
      · rw [if_neg hl] at h1
        exact h1.elim
    | exc c l s2 => rw [e0] at h1; exact h1.elim
    | err => rw [e0] at h1; exact h1.elim
  obtain ⟨m0, hm0⟩ := compS_I hcomp
  have lkD := lk.2 D (Fre.of hD)
  have eR1 := (eR.mono g1).hide hD
  have outD : ∀ ρ2 : List Addr, ∀ H2 s, SR (C.hide D) ρ2 H2 s → D ∉ ρ2 := fun ρ2 H2 s S => (S.xl D (.inr rfl)).1
  refine ⟨fun i m H2 => ∃ ρ2 s' accW accV rest, Gr ρ1 H1 ρ2 H2 ∧ SR (C.hide D) ρ2 H2 s' ∧ H2 D = some (.lst accV) ∧ Reps (C.hide D) ρ2 H2 accW accV ∧ accW ++ rest = ys ∧ compI src (stepF P call t ifs e own env) m i s' = .ok rest s2, ⟨m0, ρ1, s1, [], [], ys, ?_, S1.hide hD, upd_same, by simp only [Reps], rfl, hm0⟩, ?_⟩
  · exact Gr.new hD
  rintro i m H2 ⟨ρ2, s', accW, accV, rest, g2, S2, hH2, rA, eA, hc⟩
  cases m with
  | zero => simp [compI] at hc
  | succ m =>
    simp only [compI] at hc
    cases esrc : srcAt src i s' with
    | none => rw [esrc] at hc; cases hc
    | some o =>
      rw [esrc] at hc
      have lki := lkD ρ2 H2 s' i o g2 S2 esrc
      cases o with
      | none =>
        simp only [R.ok.injEq] at hc
        obtain ⟨rfl, rfl⟩ := hc
        refine .inl ⟨lki, ?_⟩
        refine h1' ρ2 H2 _ g2 S2.show ?_
        rw [← eA, List.append_nil]
        show Rep C ρ2 H2 (.lst accW) (.ref D)
        simp only [Rep]
        exact ⟨D, accV, rfl, ⟨outD _ _ _ S2, fun hx => by
          obtain ⟨_, zs, ez⟩ := S1.xl D hx
          rw [hD] at ez; cases ez⟩, hH2, Reps.show _ _ rA⟩
      | some x =>
        simp only at hc
        obtain ⟨jgo, jyld⟩ := lki
        refine .inr ⟨jgo, _, fun H' hn => ⟨m, Nat.lt_succ_self m, hn⟩, fun v H3 hy => ?_⟩
        obtain ⟨g3, S3, rx⟩ := jyld v H3 hy
        cases ef : stepF P call t ifs e own env x s' with
        | exc c l s3 => rw [ef] at hc; cases hc
        | err => rw [ef] at hc; cases hc
        | ok o s3 =>
          rw [ef] at hc
          simp only at hc
          cases er : compI src (stepF P call t ifs e own env) m (i + 1) s3 with
          | exc c l s4 => rw [er] at hc; cases hc
          | err => rw [er] at hc; cases hc
          | ok zs s4 =>
            rw [er] at hc
            simp only [R.ok.injEq] at hc
            obtain ⟨erest, es4⟩ := hc
            subst es4
            unfold stepF at ef
            cases ea : asg t x (wipes env own) with
            | none => rw [ea] at ef; cases ef
            | some env' =>
              rw [ea] at ef
              simp only at ef
              have hD3 : H3 D = some (.lst accV) := g3.keep D _ (outD _ _ _ S2) hH2 (fun _ q => by cases q)
              have gA := g2.trans g3
              refine ⟨(C.hide D).xi, ρ2, s', wipes env own, x, env', (eR1.mono gA).wipe own, S3, rx, ea, fun σ' eR' kp => ⟨(kp own hown).trans (wipe_idem σ own), ?_⟩⟩
              refine ⟨(C.hide D).xi, ρ2, s', env', eR', S3, ?_⟩
              unfold bnd at ef
              cases eb : evB P call ifs env' s' with
              | exc c l s5 => rw [eb] at ef; cases ef
              | err => rw [eb] at ef; cases ef
              | ok b s5 =>
                rw [eb] at ef
                intro ρ4 H4 b' g4 S4 hb
                have hb : b = b' := hb
                subst hb
                have hD4 : H4 D = some (.lst accV) := g4.keep D _ (outD _ _ _ S3) hD3 (fun _ q => by cases q)
                have rA4 := Reps.mono (g3.trans g4) _ _ rA
                cases b with
                | false =>
                  rw [if_neg Bool.false_ne_true]
                  simp only [Bool.false_eq_true, if_false, ret, R.ok.injEq] at ef
                  obtain ⟨rfl, rfl⟩ := ef
                  simp only [ocons] at erest
                  exact ⟨ρ4, s5, accW, accV, zs, gA.trans g4, S4, hD4, rA4, by rw [← eA, ← erest], er⟩
                | true =>
                  rw [if_pos rfl]
                  simp only [if_true] at ef
                  refine ⟨(C.hide D).xi, ρ4, s5, env', EnvR.mono eR' g4, S4, ?_⟩
                  cases ee : evE P call e env' s5 with
                  | exc c l s6 => rw [ee] at ef; cases ef
                  | err => rw [ee] at ef; cases ef
                  | ok y s6 =>
                    rw [ee] at ef
                    simp only [ret, R.ok.injEq] at ef
                    obtain ⟨rfl, rfl⟩ := ef
                    simp only [ocons] at erest
                    intro ρ5 H5 v5 g5 S5 r5
                    have hD5 : H5 D = some (.lst accV) := g5.keep D _ (outD _ _ _ S4) hD4 (fun _ q => by cases q)
                    have rA5 := Reps.mono g5 _ _ rA4
                    refine ⟨accV, hD5, ?_, ρ5, s6, accW ++ [y], accV ++ [v5], zs, ((gA.trans g4).trans g5).past hD (outD _ _ _ S5) _, SR.other S5 _, upd_same, ?_, ?_, er⟩
                    · rw [← rA5.length, ← line_eq]
                      have : ys.length = accW.length + (zs.length + 1) := by rw [← eA, ← erest]; simp
                      omega
                    · exact Reps.other _ _ _ (rA5.app (Reps.one r5))
                    · rw [← eA, ← erest]; simp
end
end G

set_option Elab.async false
set_option linter.all false
set_option autoImplicit false
set_option maxRecDepth 100000
set_option maxHeartbeats 2000000
/-! GL: a lambda handed to a teller. -/
namespace G
open PySem PySem.Spec PyProof.Rows L2 LamX
def noArgs (p : Arguments) : Bool := p.posonlyargs.isEmpty && p.args.isEmpty && p.vararg.isNone && p.kwonlyargs.isEmpty && p.kw_defaults.isEmpty && p.kwarg.isNone && p.defaults.isEmpty
theorem noArgs_ok {p : Arguments} (h : noArgs p = true) : p = { posonlyargs := [], args := [], vararg := none, kwonlyargs := [], kw_defaults := [], kwarg := none, defaults := [] } := by
  cases p
  simp only [noArgs, Bool.and_eq_true, List.isEmpty_iff, Option.isNone_iff_eq_none] at h
  obtain ⟨⟨⟨⟨⟨⟨h1, h2⟩, h3⟩, h4⟩, h5⟩, h6⟩, h7⟩ := h
  subst h1 h2 h3 h4 h5 h6 h7
  rfl
section
variable {X : Cx} {C : Cn} {P : Pg} {Nn : Nm} {d : Nat} {Wx : WX}
theorem gr_ext {ρ : List Addr} {H H1 : Hp} (e : ExtN H H1) : Gr ρ H ρ H1 := ⟨⟨[], by simp, fun _ h => nomatch h⟩, fun p o _ h hn => e p o h hn, fun p f o h => by
  by_cases hn : ∀ ps, o ≠ .tbl ps
  · exact (f.no (e p o h hn) hn).elim
  · simpa using hn⟩
theorem SR.ext {ρ : List Addr} {H H1 : Hp} {s : ST} (S : SR C ρ H s) (e : ExtN H H1) (t : Tabs C.T H1) : SR C ρ H1 s :=
  S.mono (gr_ext e) (fun p hp => by
    obtain ⟨vs, h⟩ := S.some hp
    rw [h]; exact e p _ h (fun _ q => by cases q)) t
theorem Ct.lam {k : Nat} (ct : Ct X C P Nn (k + 2) Wx) (A : Around) (outer : List PySem.Env) (s : Shared) (H : Hp) (E : XK) (scope : Scope) (f c' : Addr) (hr : Room k (A.deeper (lamEnv X scope s.heap.objs.size f c'))) :
    Ct (lamCx X A outer s H E scope f c') C P Nn.no k (fun cls d _ H => E cls d H) :=
  ⟨ct.hK, ct.nd, rfl, hr, takes_of rfl rfl rfl rfl, ct.blt, fun j hj n x hn => ct.fn j (by omega) n x hn, ct.cn, fun n x hn => by simp [Nm.no] at hn⟩
theorem Sc.lam (A : Around) (outer : List PySem.Env) (s : Shared) (H : Hp) (E : XK) (scope : Scope) (f c' : Addr) : Sc (lamCx X A outer s H E scope f c') scope false :=
  { cf := fun x h => h
    st := fun x h => by
      rcases h with h | ⟨h, _⟩
      · exact ⟨.inl h, .inr h⟩
      · cases h
    vis := fun x h => h
    gl := fun x h => h
    loc := fun x h => h }
theorem s_clo {n : Nat} {l : E} {x : Str} {params : Arguments} {body : Expr} {scope : Scope} {p lpos pos : Pos} (ct : Ct X C P Nn d Wx) (hn : Nn.tl[n]? = some x) (hg : Gl X x) (hdb : (x == ("__debug__" : Str)) = false) (L : LamS X.env.scope scope) (hp : noArgs params = true)
    (hbody : ∀ (k : Nat), d = k + 2 → ∀ (A : Around) (outer : List PySem.Env) (s : Shared) (H : Hp) (E : XK) (f c' : Addr), Room k (A.deeper (lamEnv X scope s.heap.objs.size f c')) → PE (lamCx X A outer s H E scope f c') body (tE C P (callD P k) (fun cls d _ H => E cls d H) l)) :
    PE X (.Call (.Name x p) [.Lambda params body scope lpos] [] pos) (tE C P (callD P d) Wx (.clo n l)) := by
  have small : (∀ k, d ≠ k + 2) → PE X (.Call (.Name x p) [.Lambda params body scope lpos] [] pos) (tE C P (callD P d) Wx (.clo n l)) := fun hd => ⟨fun pins st σ H Q I ⟨ρ, s, env, eR, S, h⟩ => by
    exfalso
    simp only [evE] at h
    unfold tellM G.bnd at h
    cases e : callD P d P.defs.length [] s with
    | ok w s' =>
      obtain ⟨k, hk, _⟩ := callD_gate e
      exact hd k hk
    | exc c l s' => exact callD_gateX e
    | err => rw [e] at h; exact h⟩
  match d, ct, hbody, small with
  | 0, ct, hbody, small => exact small fun k hk => by omega
  | 1, ct, hbody, small => exact small fun k hk => by omega
  | k + 2, ct, hbody, small =>
    have hpe := noArgs_ok hp
    subst hpe
    obtain ⟨⟨row, er, tk⟩, c, Pt, hcode, TB, hmT, hu⟩ := ct.lm n x hn
    obtain ⟨g, pg, bg, sg, kV, doc, pm, cdv, ctv, oc, an, od, osl, Ng, a, r0, h₀, hds, hs, p1, p2, p3, p5, p6, p8, j, e1, e2, e3, e4, e5, e6, e7, e8, e9, e10, e11, e12, e13, e14⟩ := tk.ex
    subst e11
    refine (pe_lamcall (T := C.T) (TT := TTell X.K hs) hg e1 e2 e3 e4 e5 e6 e7 e8 (tell_gives e13 e12 (fun f => ?_)) TB hcode hmT hu ct.room L rfl (fun q cl pm cv ctv => rfl) (fun A outer s H E f c' hr => hbody k rfl A outer s H E f c' hr) hdb e9 e10).imp fun σ H Q ⟨ρ, s, env, eR, S, h⟩ => ?_
    · unfold L2.start; rfl
    refine ⟨S.tb, fun H1 ex tb => ?_⟩
    have g1 : Gr ρ H ρ H1 := gr_ext ex
    have S1 := S.ext ex tb
    refine ⟨ρ, s, env, eR.mono g1, S1, ?_⟩
    simp only [evE] at h
    rw [callD_more] at h
    unfold tellM G.bnd at h
    have gate : callD P (k + 2) P.defs.length [] s = .ok .non s := by
      have h1 : P.defs[P.defs.length]? = none := List.getElem?_eq_none (Nat.le_refl _)
      rw [callD]; simp only [h1, if_true]
    rw [gate] at h
    simp only at h
    cases ev : evE P (callD P k) l env s with
    | ok w s' =>
      rw [ev] at h
      exact fun ρ' H' v g S' r => h ρ' H' _ (g1.trans g) S' (Rep.mkS fun _ h => nomatch h)
    | exc c1 l1 s' =>
      rw [ev] at h
      simp only [er, Option.bind_some] at h
      intro ρ' H' ad dd g S' ec
      cases et : (row[c1]?).join with
      | none => rw [et] at h; exact h.elim
      | some t =>
        rw [et] at h
        have et' : row[c1]? = some (some t) := by
          cases z : row[c1]? with
          | none => rw [z] at et; cases et
          | some o => rw [z] at et; cases o with
            | none => cases et
            | some t' => simpa using et
        obtain ⟨q1, q2⟩ := e14 c1 t ad et' ec
        exact tell_w q1 (h ρ' H' _ (g1.trans g) S' (Rep.mkS q2))
    | err => rw [ev] at h; exact h
end
end G

set_option Elab.async false
set_option linter.all false
set_option autoImplicit false
set_option maxRecDepth 100000
set_option maxHeartbeats 4000000
/-! G9: the checker of expressions, and that what it lets pass is sound. -/
namespace G
open PySem PySem.Spec PyProof.Rows L2
def notStar : Expr → Bool
  | .Starred .. => false
  | _ => true
def notCall : Expr → Bool
  | .Call .. => false
  | _ => true
def notSet : Expr → Bool
  | .Set .. => false
  | _ => true
def lookIs (sc : Scope) (x : Str) (k : NameKind) : Bool := sc.names.lookup x == some k
def isVis (sc : Scope) (x : Str) : Bool := lookIs sc x .local || lookIs sc x .cell || lookIs sc x .free
def okName (x : Str) : Bool := !(x == ("__debug__" : Str)) && !(x == ("__classdict__" : Str))
def ckK : W → Expr → Bool
  | .int i, .Constant (.int j) _ _ => i == j
  | .bl b, .Constant (.bool c) _ _ => b == c
  | .non, .Constant .none _ _ => true
  | .str l, .Constant (.str x) _ _ => x == strOf l && l.all (· < 0x110000)
  | _, _ => false
def tyNames : List String := ["int", "str", "bool", "tuple", "list"]
/-- the scope of a lambda without names of its own -/
def ckLam (sc scope : Scope) : Bool := (scope.kind == .function) && !scope.isCoroutine && !scope.isGenerator && scope.names.all fun y => !(y.2 == .local) && !(y.2 == .cell) && (!(y.2 == .free) || lookIs sc y.1 .cell || lookIs sc y.1 .free)
def ckBlk (N : List Str) (sc scope : Scope) (own : List (Str × Nat)) : Bool :=
  (scope.kind == .function) && scope.names.all (fun y => scope.names.lookup y.1 == some y.2) && own.all (fun p => N[p.2]? == some p.1) &&
  scope.names.all (fun y => !(y.2 == .free) || lookIs sc y.1 .cell || lookIs sc y.1 .free) &&
  scope.names.all (fun y => !(y.2 == .local || y.2 == .cell) || (own.map (·.1)).contains y.1 || !N.contains y.1)
def ownOf (N : List Str) (own : List Nat) : List (Str × Nat) := own.map fun i => (N.getD i "", i)
/-- whether a test of this form is its value's truth, or has a rule of its own -/
def ptOk : Expr → Bool
  | .Name .. | .Call .. | .Subscript .. | .Constant .. | .Compare .. | .BoolOp .. | .UnaryOp .Not _ _ => true
  | _ => false
def isStep (k : Int) : Expr → Bool
  | .Constant (.int j) _ _ => j == k && !(k == 0)
  | .UnaryOp .USub (.Constant (.int j) _ _) _ => k == -j && !(k == 0)
  | _ => false
def isOne : Expr → Bool
  | .Constant (.int j) _ _ => j == 1
  | _ => false
section
mutual
def ckE (Nn : Nm) (N : List Str) : Scope → E → Expr → Bool
  | sc, .var i, ex => match ex with
    | .Name x _ => N[i]? == some x && isVis sc x && okName x
    | _ => false
  | sc, .k w, ex => match w with
    | .ty t => match ex with
      | .Name x _ => x == Str.ofString t && lookIs sc x .globalImplicit && tyNames.contains t
      | _ => false
    | w => ckK w ex
  | sc, .glob n, ex => match ex with
    | .Name x _ => Nn.cns[n]? == some x && lookIs sc x .globalImplicit && okName x
    | _ => false
  | sc, .bin op a b, ex => match ex with
    | .BinOp l o r _ => o == bopO op && ckE Nn N sc a l && ckE Nn N sc b r
    | _ => false
  | sc, .neg a, ex => match ex with
    | .UnaryOp .USub e _ => ckE Nn N sc a e
    | _ => false
  | sc, .cmp op a b, ex => match ex with
    | .Compare l [o] [r] _ => o == copO op && ckE Nn N sc a l && ckE Nn N sc b r && notSet r
    | _ => false
  | sc, .chain op op' a b c, ex => match ex with
    | .Compare l [o, o'] [m, r] _ => o == copO op && o' == copO op' && ckE Nn N sc a l && ckE Nn N sc b m && ckE Nn N sc c r && notSet r
    | _ => false
  | sc, .and a b, ex => match ex with
    | .BoolOp .And [x, y] _ => ckE Nn N sc a x && ckE Nn N sc b y && ptOk x && ptOk y
    | .BoolOp .And (x :: y :: z :: rest) p => ckE Nn N sc a x && ckE Nn N sc b (.BoolOp .And (y :: z :: rest) p) && ptOk x
    | _ => false
  | sc, .or a b, ex => match ex with
    | .BoolOp .Or [x, y] _ => ckE Nn N sc a x && ckE Nn N sc b y && ptOk x && ptOk y
    | .BoolOp .Or (x :: y :: z :: rest) p => ckE Nn N sc a x && ckE Nn N sc b (.BoolOp .Or (y :: z :: rest) p) && ptOk x
    | _ => false
  | sc, .not a, ex => match ex with
    | .UnaryOp .Not e _ => ckE Nn N sc a e && ptOk e
    | _ => false
  | sc, .ife c a b, ex => match ex with
    | .IfExp c' a' b' _ => ckE Nn N sc c c' && ckE Nn N sc a a' && ckE Nn N sc b b' && ptOk c'
    | _ => false
  | sc, .tup l, ex => match ex with
    | .Tuple es _ _ => ckA Nn N sc l es
    | _ => false
  | sc, .htup l, ex => match ex with
    | .Tuple es _ _ => ckA Nn N sc l es
    | _ => false
  | sc, .lst l, ex => match ex with
    | .List es _ => ckA Nn N sc l es
    | _ => false
  | sc, .slx a lo hi k, ex => match ex with
    | .Subscript o (.Slice l h (some st) _) _ => isStep k st && ckE Nn N sc a o && ckO Nn N sc lo l && ckO Nn N sc hi h
    | _ => false
  | sc, .lzip a b, ex => match ex with
    | .Call (.Name x _) [.Call (.Name y _) [e, e'] [] _] [] _ => x == ("list" : Str) && y == ("zip" : Str) && lookIs sc x .globalImplicit && lookIs sc y .globalImplicit && ckE Nn N sc a e && ckE Nn N sc b e' && notStar e && notStar e'
    | _ => false
  | sc, .lens a, ex => match ex with
    | .Call (.Name x _) [.Call (.Name y _) [e] [] _] [] _ => x == ("len" : Str) && y == ("set" : Str) && lookIs sc x .globalImplicit && lookIs sc y .globalImplicit && ckE Nn N sc a e && notStar e
    | _ => false
  | sc, .mlst l, ex => match ex with
    | .List es _ => ckA Nn N sc l es
    | _ => false
  | sc, .sl a lo hi, ex => match ex with
    | .Subscript o (.Slice l h none _) _ => ckE Nn N sc a o && ckO Nn N sc lo l && ckO Nn N sc hi h
    | _ => false
  | sc, .rev a, ex => match ex with
    | .Subscript o (.Slice none none (some (.UnaryOp .USub j _)) _) _ => isOne j && ckE Nn N sc a o
    | _ => false
  | sc, .ix a b, ex => match ex with
    | .Subscript o i _ => ckE Nn N sc a o && ckE Nn N sc b i && plainIx i
    | _ => false
  | sc, .call n l, ex => match ex with
    | .Call (.Name x _) (e :: es) [] _ => Nn.fns[n]? == some x && lookIs sc x .globalImplicit && okName x && ckA Nn N sc l (e :: es)
    | _ => false
  | sc, .bi b l, ex => match ex with
    | .Call (.Name x _) (e :: es) [] _ => (match b with | .mlist => x == ("list" : Str) | b => match biN b with | some (y, _) => x == y | none => false) && lookIs sc x .globalImplicit && ckA Nn N sc l (e :: es)
    | _ => false
  | sc, .meth m o l, ex => match ex with
    | .Call (.Attribute o' mm apos) [e] [] cpos => (match m with | .append => mm == ("append" : Str) | .pop => mm == ("pop" : Str) | .join => mm == ("join" : Str) | _ => false) && ckE Nn N sc o o' && ckA Nn N sc l [e] && notCall o' && apos.endLine == cpos.line
    | _ => false
  | sc, .lc t it ifs e own, ex => match ex with
    | .ListComp elt [⟨tg, iter, ifs', 0⟩] scope _ => ckBlk N sc scope (ownOf N own) && (tgV t).all (fun i => own.contains i) && ckT scope true N t tg && ckI Nn N sc it tg iter && ckB Nn N scope ifs ifs' && ckE Nn N scope e elt && notSet iter
    | _ => false
  | sc, .clo n l, ex => match ex with
    | .Call (.Name x _) [.Lambda params body scope _] [] _ => Nn.tl[n]? == some x && lookIs sc x .globalImplicit && okName x && ckLam sc scope && noArgs params && ckE Nn.no N scope l body
    | _ => false
  | sc, .nil, _ => true
  | _, _, _ => false
termination_by structural _ e => e
def ckA (Nn : Nm) (N : List Str) : Scope → E → List Expr → Bool
  | sc, .nil, l => match l with
    | [] => true
    | _ => false
  | sc, .cons a b, l => match l with
    | e :: es => ckE Nn N sc a e && ckA Nn N sc b es && notStar e
    | _ => false
  | _, _, _ => false
termination_by structural _ e => e
def ckO (Nn : Nm) (N : List Str) : Scope → E → Option Expr → Bool
  | sc, .no, o => match o with
    | none => true
    | _ => false
  | sc, .itr a, o => match o with
    | some e => ckE Nn N sc a e
    | _ => false
  | _, _, _ => false
termination_by structural _ e => e
def ckB (Nn : Nm) (N : List Str) : Scope → E → List Expr → Bool
  | sc, .nil, l => match l with
    | [] => true
    | _ => false
  | sc, .cons a b, l => match l with
    | [e] => ckE Nn N sc a e && ptOk e && (match b with | .nil => true | _ => false)
    | _ => false
  | _, _, _ => false
termination_by structural _ e => e
def ckI (Nn : Nm) (N : List Str) : Scope → E → Expr → Expr → Bool
  | sc, .itr a, _, e => ckE Nn N sc a e
  | sc, .enum a, tg, ex => match tg, ex with
    | .Tuple _ _ _, .Call (.Name x _) [e] [] _ => x == ("enumerate" : Str) && lookIs sc x .globalImplicit && ckE Nn N sc a e && notStar e
    | _, _ => false
  | sc, .zip a b, tg, ex => match tg, ex with
    | .Tuple _ _ _, .Call (.Name x _) [e, e'] [] _ => x == ("zip" : Str) && lookIs sc x .globalImplicit && ckE Nn N sc a e && ckE Nn N sc b e' && notStar e && notStar e'
    | _, _ => false
  | sc, .rng l, _, ex => match ex with
    | .Call (.Name x _) [e] [] _ => x == ("range" : Str) && lookIs sc x .globalImplicit && ckA Nn N sc l [e]
    | .Call (.Name x _) [e, e'] [] _ => x == ("range" : Str) && lookIs sc x .globalImplicit && ckA Nn N sc l [e, e']
    | _ => false
  | sc, .nil, _, _ => true
  | _, _, _, _ => false
termination_by structural _ e => e
end
end
/-! lemmas of the forms -/
theorem star_cons {e : Expr} {es : List Expr} {env : PySem.Env} (h : notStar e = true) : starEach (e :: es) env = (false, eval e env) :: starEach es env := by
  cases e <;> first | rfl | (simp [notStar] at h)
theorem mark_no {op : CmpOp} {e : Expr} (h : notSet e = true) : behindInMarks op e = false := by
  cases e <;> first | rfl | (simp [notSet] at h)
theorem plain_ix {e : Expr} (h : plainIx e = true) : PlainIx e ∧ NoSl e := by
  cases e <;> first | exact ⟨fun _ _ => rfl, fun _ _ => rfl⟩ | (simp [plainIx] at h)
theorem base_of {e : Expr} {m : Str} {env : PySem.Env} (h : notCall e = true) : attributeBase e m env (eval e env) = eval e env := by
  cases e <;> first | rfl | (simp [notCall] at h)
theorem fold_no {e : Expr} {env : PySem.Env} (h : notSet e = true) : ∀ x, foldedSetIterable e env x = pure x := by
  cases e <;> first | (intro x; rfl) | (simp [notSet] at h)
section
variable {Nn : Nm} {N : List Str}
theorem ckA_star : ∀ {sc : Scope} {l : E} {es : List Expr} {env : PySem.Env} {pos : Pos}, ckA Nn N sc l es = true → (backTo pos (starEach es env)).any (·.1) = false
  | sc, .nil, es, env, pos, h => by
    simp only [ckA] at h
    split at h
    · rfl
    · cases h
  | sc, .cons a b, es, env, pos, h => by
    simp only [ckA] at h
    split at h
    · rename_i e es'
      simp only [Bool.and_eq_true] at h
      rw [star_cons h.2]
      have := ckA_star (env := env) (pos := pos) h.1.2
      simp only [backTo, List.map_cons, List.any_cons, Bool.false_eq_true, if_false, Bool.false_or]
      exact this
    · cases h
  | sc, .var _, _, _, _, h | sc, .k _, _, _, _, h | sc, .glob _, _, _, _, h | sc, .fnv _, _, _, _, h | sc, .bin .., _, _, _, h | sc, .neg _, _, _, _, h | sc, .cmp .., _, _, _, h | sc, .chain .., _, _, _, h | sc, .and .., _, _, _, h | sc, .or .., _, _, _, h | sc, .not _, _, _, _, h
  | sc, .ife .., _, _, _, h | sc, .tup _, _, _, _, h | sc, .htup _, _, _, _, h | sc, .lens _, _, _, _, h | sc, .lst _, _, _, _, h | sc, .mlst _, _, _, _, h | sc, .ix .., _, _, _, h | sc, .sl .., _, _, _, h | sc, .slx .., _, _, _, h | sc, .no, _, _, _, h | sc, .rev _, _, _, _, h | sc, .call .., _, _, _, h | sc, .bi .., _, _, _, h | sc, .meth .., _, _, _, h
  | sc, .lc .., _, _, _, h | sc, .lzip .., _, _, _, h | sc, .lrng _, _, _, _, h | sc, .rng _, _, _, _, h | sc, .enum _, _, _, _, h | sc, .zip .., _, _, _, h | sc, .itr _, _, _, _, h | sc, .clo .., _, _, _, h => by simp [ckA] at h
theorem ckA_head {sc : Scope} {l : E} {e : Expr} {es : List Expr} (h : ckA Nn N sc l (e :: es) = true) : notStar e = true := by
  cases l <;> simp only [ckA, Bool.false_eq_true, Bool.and_eq_true] at h
  exact h.2
theorem ckA_tail {sc : Scope} {l : E} {e : Expr} {es : List Expr} {env : PySem.Env} {pos : Pos} (h : ckA Nn N sc l (e :: es) = true) : (backTo pos (starEach es env)).any (·.1) = false := by
  cases l <;> simp only [ckA, Bool.false_eq_true, Bool.and_eq_true] at h
  exact ckA_star h.1.2
theorem ckA_one {sc : Scope} {l : E} {e : Expr} (h : ckA Nn N sc l [e] = true) : ∃ a, l = .cons a .nil ∧ ckE Nn N sc a e = true ∧ notStar e = true := by
  cases l <;> simp only [ckA, Bool.false_eq_true, Bool.and_eq_true] at h
  rename_i a b
  cases b <;> simp only [ckA, Bool.false_eq_true, false_and, and_false] at h
  exact ⟨a, rfl, h.1.1, h.2⟩
theorem ckA_two {sc : Scope} {l : E} {e e' : Expr} (h : ckA Nn N sc l [e, e'] = true) : ∃ a b, l = .cons a (.cons b .nil) ∧ ckE Nn N sc a e = true ∧ notStar e = true ∧ ckE Nn N sc b e' = true ∧ notStar e' = true := by
  cases l <;> simp only [ckA, Bool.false_eq_true, Bool.and_eq_true] at h
  rename_i a b
  obtain ⟨b', rfl, h1, h2⟩ := ckA_one h.1.2
  exact ⟨a, b', rfl, h.1.1, h.2, h1, h2⟩
end
/-! a comprehension's block as a place to stand -/
section
variable {X : Cx} {C : Cn} {P : Pg} {Nn : Nm} {d : Nat} {Wx : WX}
theorem Ct.blk (ct : Ct X C P Nn d Wx) (xi : Addr → Prop) (s : Shared) (H : Hp) (scope : Scope) (cenv : PySem.Env) (fp : List Addr) (hq : cenv.qual = X.env.qual := by rfl) (hc : cenv.code = X.env.code := by rfl) : Ct (X.blk s H scope cenv fp) (C.at xi) P Nn d WF :=
  ⟨ct.hK, ct.nd, ct.calm, ct.room, L2.takes0, ct.blt, ct.fn, ct.cn, fun n x hn => by
    obtain ⟨⟨row, er, tk⟩, c, Pt, h1, h2, h3, h4⟩ := ct.lm n x hn
    refine ⟨⟨row, er, ⟨tk.ex⟩⟩, c, Pt, hc.trans h1, h2, ?_, ?_⟩
    · show (Pt, cenv.qual ++ "<lambda>") ∈ C.T
      rw [hq]; exact h3
    · show ∀ p ∈ C.T, p.1 = Pt → p.2 = cenv.qual ++ "<lambda>"
      rw [hq]; exact h4⟩
theorem look_map (f : Str → NameKind → NameKind) : ∀ (names : List (Str × NameKind)) (x : Str), (names.map fun (n, k) => (n, f n k)).lookup x = (names.lookup x).map (f x)
  | [], x => rfl
  | (n, k) :: r, x => by
    have ih := look_map f r x
    simp only [List.map_cons, List.lookup]
    cases e : x == n with
    | true =>
      have : x = n := by simpa using e
      subst this; rfl
    | false => exact ih
theorem look_relabel (scope : Scope) (env : PySem.Env) (x : Str) : (relabel scope env).names.lookup x = (scope.names.lookup x).map fun k => if (k == .free && env.scope.kind == .function && env.kindOf x == some .cell) then .cell else k := by
  have := look_map (fun n k => if (k == .free && env.scope.kind == .function && env.kindOf n == some .cell) then NameKind.cell else k) scope.names x
  rw [← this]
  unfold relabel
  congr 1
  apply List.map_congr_left
  intro p _
  obtain ⟨n, k⟩ := p
  show (if _ then (n, NameKind.cell) else (n, k)) = (n, if _ then NameKind.cell else k)
  split <;> rfl
theorem Sc.blk {scope : Scope} (s : Shared) (H : Hp) (D : Addr) (cl : List (Str × Addr)) (fp : List Addr) : Sc (X.blk s H scope (compEnvC scope cl D X.env) fp) scope true := by
  have lk : ∀ x, (compEnvC scope cl D X.env).scope.names.lookup x = (scope.names.lookup x).map fun k => if (k == .free && X.env.scope.kind == .function && X.env.kindOf x == some .cell) then .cell else k := fun x => look_relabel scope X.env x
  have cf : ∀ x, scope.names.lookup x = some .cell ∨ scope.names.lookup x = some .free → (compEnvC scope cl D X.env).scope.names.lookup x = some .cell ∨ (compEnvC scope cl D X.env).scope.names.lookup x = some .free := fun x h => by
    rw [lk]
    rcases h with h | h
    · rw [h]; left; rfl
    · rw [h]
      show some (if _ then NameKind.cell else NameKind.free) = _ ∨ some (if _ then NameKind.cell else NameKind.free) = _
      split
      · exact .inl rfl
      · exact .inr rfl
  have lo : ∀ x, scope.names.lookup x = some .local → (compEnvC scope cl D X.env).scope.names.lookup x = some .local := fun x h => by
    rw [lk, h]; rfl
  refine ⟨cf, fun x h => ?_, fun x h => ?_, fun x h => ?_, lo⟩
  · rcases h with h | ⟨_, h⟩
    · exact ⟨.inl (lo x h), .inr (lo x h)⟩
    · refine ⟨.inr ?_, .inl ?_⟩
      · show (compEnvC scope cl D X.env).scope.names.lookup x = some .cell
        rw [lk, h]; rfl
      · show (scope.names.lookup x == some NameKind.cell) = true
        rw [h]; rfl
  · rcases h with h | h
    · exact .inl (lo x h)
    · exact .inr (cf x h)
  · show (compEnvC scope cl D X.env).kindOf x = some .globalImplicit
    show (compEnvC scope cl D X.env).scope.names.lookup x = _
    rw [lk, h]; rfl
theorem blk_ok {sc scope : Scope} {cl : Bool} {own : List (Str × Nat)} (Q : Sc X sc cl) (h : ckBlk X.N sc scope own = true) : BlkOk X.N X.env.scope scope own := by
  simp only [ckBlk, Bool.and_eq_true, List.all_eq_true, beq_iff_eq, Bool.or_eq_true, Bool.not_eq_true', lookIs] at h
  obtain ⟨⟨⟨⟨h1, h2⟩, h3⟩, h4⟩, h5⟩ := h
  refine ⟨h1, fun y hy => h2 y hy, fun p hp => h3 p hp, fun y hy hf => ?_, fun y hy hl => ?_⟩
  · have := h4 y hy
    rw [hf] at this
    exact Q.cf y.1 (by simpa using this)
  · have := h5 y hy
    rcases this with (h | h) | h
    · rcases hl with hl | hl <;> rw [hl] at h <;> simp at h
    · exact .inl (by simpa using h)
    · exact .inr (by simpa using h)
theorem lam_ok {sc scope : Scope} {cl : Bool} (Q : Sc X sc cl) (h : ckLam sc scope = true) : LamX.LamS X.env.scope scope := by
  simp only [ckLam, Bool.and_eq_true, List.all_eq_true, beq_iff_eq, Bool.or_eq_true, Bool.not_eq_true', lookIs] at h
  obtain ⟨⟨⟨h1, h2⟩, h3⟩, h4⟩ := h
  refine ⟨h1, h2, h3, fun y hy => ⟨fun e => ?_, fun e => ?_⟩, fun y hy hf => Q.cf y.1 ?_⟩
  · have := (h4 y hy).1.1
    rw [e] at this; cases this
  · have := (h4 y hy).1.2
    rw [e] at this; cases this
  · have := (h4 y hy).2
    rw [hf] at this
    simpa using this
def Snd (X : Cx) (C : Cn) (P : Pg) (d : Nat) (Wx : WX) (ir : E) (e : Expr) : Prop :=
  PE X e (tE C P (callD P d) Wx ir) ∧ (ptOk e = true → PT X e (tT C P (callD P d) Wx ir)) ∧ (∀ op x y rest p, e = .BoolOp op (x :: y :: rest) p → PW X e (tT C P (callD P d) Wx ir))
/-- an expression that is never reached -/
theorem bad_E {σ : L2.St} {H : Hp} {Q : L2.VK} (q : tE C P (callD P d) Wx .nil σ H Q) : False := by
  obtain ⟨ρ, s, env, _, _, h⟩ := q
  exact h
theorem bad_T {σ : L2.St} {H : Hp} {Q : Bool → Hp → Prop} (q : tT C P (callD P d) Wx .nil σ H Q) : False := by
  obtain ⟨ρ, s, env, _, _, h⟩ := q
  exact h
theorem snd_bad {e : Expr} : Snd X C P d Wx .nil e :=
  ⟨⟨fun _ _ _ _ _ _ q => (bad_E q).elim⟩, fun _ => ⟨fun _ _ _ _ _ _ q => (bad_T q).elim⟩, fun _ _ _ _ _ _ => ⟨fun _ _ _ _ _ _ _ q => (bad_T q).elim⟩⟩
theorem pi_bad {tg e : Expr} : PI X tg e (tI C P (callD P d) Wx .nil) := ⟨fun _ _ _ _ _ _ q => by
  obtain ⟨ρ, s, env, _, _, h⟩ := q
  exact h.elim⟩
theorem snd_val {ir : E} {e : Expr} (h : PE X e (tE C P (callD P d) Wx ir)) (he : ∀ whole, isTrue e X.env whole = (do let v ← whole; standAt e.pos; holding [v] (truthy v))) (hb : ∀ op x y rest p, e ≠ .BoolOp op (x :: y :: rest) p) : Snd X C P d Wx ir e :=
  ⟨h, fun _ => (pt_val h he).imp fun σ H Q q => q.val, fun op x y rest p q => (hb op x y rest p q).elim⟩
theorem snd_no {ir : E} {e : Expr} (h : PE X e (tE C P (callD P d) Wx ir)) (ho : ptOk e = false) : Snd X C P d Wx ir e :=
  ⟨h, fun q => (by rw [ho] at q; cases q), fun op x y rest p q => by subst q; simp [ptOk] at ho⟩
theorem snd_pt {ir : E} {e : Expr} (h : PE X e (tE C P (callD P d) Wx ir) ∧ PT X e (tT C P (callD P d) Wx ir)) (hb : ∀ op x y rest p, e ≠ .BoolOp op (x :: y :: rest) p) : Snd X C P d Wx ir e :=
  ⟨h.1, fun _ => h.2, fun op x y rest p q => (hb op x y rest p q).elim⟩
theorem snd_pw {ir : E} {e : Expr} (h : PE X e (tE C P (callD P d) Wx ir) ∧ PW X e (tT C P (callD P d) Wx ir)) : Snd X C P d Wx ir e :=
  ⟨h.1, fun _ => h.2.pt, fun _ _ _ _ _ _ => h.2⟩
theorem ty_rep {t : String} {xi : Addr → Prop} {ρ : List Addr} {H : Hp} : Rep (C.at xi) ρ H (.ty t) (.ty t) := by simp only [Rep]
theorem ckK_snd {w : W} {e : Expr} (h : ckK w e = true) : ∃ v, PE X e (tC v) ∧ (∀ ρ H, Rep C ρ H w v) ∧ (∀ whole, isTrue e X.env whole = (do let v ← whole; standAt e.pos; holding [v] (truthy v))) ∧ ∀ op x y rest p, e ≠ .BoolOp op (x :: y :: rest) p := by
  unfold ckK at h
  split at h
  · have := eq_of_beq h
    subst this
    exact ⟨_, pe_int, fun _ _ => Rep.mkI, fun _ => rfl, fun _ _ _ _ _ q => by cases q⟩
  · have := eq_of_beq h
    subst this
    exact ⟨_, pe_bl, fun _ _ => Rep.mkB, fun _ => rfl, fun _ _ _ _ _ q => by cases q⟩
  · exact ⟨_, pe_non, fun _ _ => Rep.mkN, fun _ => rfl, fun _ _ _ _ _ q => by cases q⟩
  · simp only [Bool.and_eq_true, beq_iff_eq, List.all_eq_true, decide_eq_true_eq] at h
    obtain ⟨rfl, h2⟩ := h
    exact ⟨_, pe_str, fun _ _ => Rep.mkS h2, fun _ => rfl, fun _ _ _ _ _ q => by cases q⟩
  · cases h
theorem boot_ty {t : String} (h : tyNames.contains t = true) : bootBuiltins (Str.ofString t) = some (.type t) ∧ Str.ofString t ≠ "__name__" ∧ (Str.ofString t == ("__debug__" : Str)) = false ∧ Str.ofString t ∈ bnames := by
  have : t = "int" ∨ t = "str" ∨ t = "bool" ∨ t = "tuple" ∨ t = "list" := by simpa [tyNames] using h
  rcases this with rfl | rfl | rfl | rfl | rfl <;> decide +kernel
theorem okName_of {x : Str} (h : okName x = true) : (x == ("__debug__" : Str)) = false ∧ (x == ("__classdict__" : Str)) = false := by
  simp only [okName, Bool.and_eq_true, Bool.not_eq_true'] at h
  exact h
theorem vis_of {sc : Scope} {cl : Bool} {x : Str} (Q : Sc X sc cl) (h : isVis sc x = true) : Vis X.env.scope x := by
  simp only [isVis, lookIs, Bool.or_eq_true, beq_iff_eq] at h
  exact Q.vis x (by rcases h with (h | h) | h; exact .inl h; exact .inr (.inl h); exact .inr (.inr h))
theorem gl_of {sc : Scope} {cl : Bool} {x : Str} (Q : Sc X sc cl) (h : lookIs sc x .globalImplicit = true) : Gl X x := Q.gl x (by simpa [lookIs] using h)
end
end G

set_option Elab.async false
set_option linter.all false
set_option autoImplicit false
set_option maxRecDepth 100000
set_option maxHeartbeats 4000000
/-! GA: what the checker of expressions lets pass is sound. -/
namespace G
open PySem PySem.Spec PyProof.Rows L2 LamX
section
variable {P : Pg}
theorem few_one {e : Expr} {env : PySem.Env} {cpos : Pos} (h : notStar e = true) : ((backTo cpos (starEach [e] env)).all (fun x => !x.1) && (backToKw cpos (keywordEach [] env)).all (fun x => x.1.isSome) && decide ([e].length + ([] : List Keyword).length + (if ([] : List Keyword).isEmpty then 0 else 1) < 30)) = true := by
  rw [star_cons h]; rfl
mutual
theorem sndE : ∀ (ir : E) (e : Expr) (Nn : Nm) (d : Nat) (X : Cx) (C : Cn) (Wx : WX) (sc : Scope) (cl : Bool), Ct X C P Nn d Wx → Sc X sc cl → ckE Nn X.N sc ir e = true → Snd X C P d Wx ir e
  | .var i, e, Nn, d, X, C, Wx, sc, cl, ct, Q, h => by
    simp only [ckE] at h
    split at h
    · simp only [Bool.and_eq_true, beq_iff_eq] at h
      obtain ⟨⟨h1, h2⟩, h3⟩ := h
      obtain ⟨h4, h5⟩ := okName_of h3
      exact snd_val (s_var h1 (vis_of Q h2) h4 h5) (fun _ => rfl) fun _ _ _ _ _ q => by cases q
    · cases h
  | .k w, e, Nn, d, X, C, Wx, sc, cl, ct, Q, h => by
    simp only [ckE] at h
    split at h
    · rename_i t
      split at h
      · simp only [Bool.and_eq_true, beq_iff_eq] at h
        obtain ⟨⟨rfl, h2⟩, h3⟩ := h
        obtain ⟨b1, b2, b3, b4⟩ := boot_ty h3
        exact snd_val (s_const (fun ρ H => ty_rep (xi := C.xi)) (pe_bltn (gl_of Q h2) (ct.blt _ b4) b1 rfl b2 b3)) (fun _ => rfl) fun _ _ _ _ _ q => by cases q
      · cases h
    · obtain ⟨v, h1, h2, h3, h4⟩ := ckK_snd (X := X) (C := C) h
      exact snd_val (s_const h2 h1) h3 h4
  | .glob n, e, Nn, d, X, C, Wx, sc, cl, ct, Q, h => by
    simp only [ckE] at h
    split at h
    · simp only [Bool.and_eq_true, beq_iff_eq] at h
      obtain ⟨⟨h1, h2⟩, h3⟩ := h
      exact snd_val (s_glob ct h1 (gl_of Q h2) (okName_of h3).1) (fun _ => rfl) fun _ _ _ _ _ q => by cases q
    · cases h
  | .bin op a b, e, Nn, d, X, C, Wx, sc, cl, ct, Q, h => by
    simp only [ckE] at h
    split at h
    · simp only [Bool.and_eq_true, beq_iff_eq] at h
      obtain ⟨⟨rfl, h2⟩, h3⟩ := h
      exact snd_no (s_bin ct (sndE a _ _ _ X C Wx sc cl ct Q h2).1 (sndE b _ _ _ X C Wx sc cl ct Q h3).1) rfl
    · cases h
  | .neg a, e, Nn, d, X, C, Wx, sc, cl, ct, Q, h => by
    simp only [ckE] at h
    split at h
    · exact snd_no (s_neg (sndE a _ _ _ X C Wx sc cl ct Q h).1) rfl
    · cases h
  | .cmp op a b, e, Nn, d, X, C, Wx, sc, cl, ct, Q, h => by
    simp only [ckE] at h
    split at h
    · simp only [Bool.and_eq_true, beq_iff_eq] at h
      obtain ⟨⟨⟨rfl, h2⟩, h3⟩, h4⟩ := h
      exact snd_pt (s_cmp ct (sndE a _ _ _ X C Wx sc cl ct Q h2).1 (sndE b _ _ _ X C Wx sc cl ct Q h3).1 (mark_no h4)) fun _ _ _ _ _ q => by cases q
    · cases h
  | .chain op op' a b c, e, Nn, d, X, C, Wx, sc, cl, ct, Q, h => by
    simp only [ckE] at h
    split at h
    · simp only [Bool.and_eq_true, beq_iff_eq] at h
      obtain ⟨⟨⟨⟨⟨rfl, rfl⟩, h2⟩, h3⟩, h4⟩, h5⟩ := h
      exact snd_pt (s_chain ct (sndE a _ _ _ X C Wx sc cl ct Q h2).1 (sndE b _ _ _ X C Wx sc cl ct Q h3).1 (sndE c _ _ _ X C Wx sc cl ct Q h4).1 (show behindInMarks _ _ = false from mark_no h5)) fun _ _ _ _ _ q => by cases q
    · cases h
  | .and a b, e, Nn, d, X, C, Wx, sc, cl, ct, Q, h => by
    simp only [ckE] at h
    split at h
    · simp only [Bool.and_eq_true] at h
      obtain ⟨⟨⟨h1, h2⟩, h3⟩, h4⟩ := h
      have A := sndE a _ _ _ X C Wx sc cl ct Q h1
      have B := sndE b _ _ _ X C Wx sc cl ct Q h2
      exact snd_pw (s_and A.1 (A.2.1 h3) (pe_one B.1) (pw_and1 (B.2.1 h4)))
    · simp only [Bool.and_eq_true] at h
      obtain ⟨⟨h1, h2⟩, h3⟩ := h
      have A := sndE a _ _ _ X C Wx sc cl ct Q h1
      have B := sndE b _ _ _ X C Wx sc cl ct Q h2
      exact snd_pw (s_and A.1 (A.2.1 h3) B.1 (B.2.2 _ _ _ _ _ rfl))
    · cases h
  | .or a b, e, Nn, d, X, C, Wx, sc, cl, ct, Q, h => by
    simp only [ckE] at h
    split at h
    · simp only [Bool.and_eq_true] at h
      obtain ⟨⟨⟨h1, h2⟩, h3⟩, h4⟩ := h
      have A := sndE a _ _ _ X C Wx sc cl ct Q h1
      have B := sndE b _ _ _ X C Wx sc cl ct Q h2
      exact snd_pw (s_or A.1 (A.2.1 h3) (pe_one B.1) (pw_or1 (B.2.1 h4)))
    · simp only [Bool.and_eq_true] at h
      obtain ⟨⟨h1, h2⟩, h3⟩ := h
      have A := sndE a _ _ _ X C Wx sc cl ct Q h1
      have B := sndE b _ _ _ X C Wx sc cl ct Q h2
      exact snd_pw (s_or A.1 (A.2.1 h3) B.1 (B.2.2 _ _ _ _ _ rfl))
    · cases h
  | .not a, e, Nn, d, X, C, Wx, sc, cl, ct, Q, h => by
    simp only [ckE] at h
    split at h
    · simp only [Bool.and_eq_true] at h
      have A := sndE a _ _ _ X C Wx sc cl ct Q h.1
      exact snd_pt (s_not A.1 (A.2.1 h.2)) fun _ _ _ _ _ q => by cases q
    · cases h
  | .ife c a b, e, Nn, d, X, C, Wx, sc, cl, ct, Q, h => by
    simp only [ckE] at h
    split at h
    · simp only [Bool.and_eq_true] at h
      obtain ⟨⟨⟨h1, h2⟩, h3⟩, h4⟩ := h
      exact snd_no (s_ife ((sndE c _ _ _ X C Wx sc cl ct Q h1).2.1 h4) (sndE a _ _ _ X C Wx sc cl ct Q h2).1 (sndE b _ _ _ X C Wx sc cl ct Q h3).1) rfl
    · cases h
  | .tup l, e, Nn, d, X, C, Wx, sc, cl, ct, Q, h => by
    simp only [ckE] at h
    split at h
    · exact snd_no (s_tup (sndA l _ _ _ X C Wx sc cl ct Q h)) rfl
    · cases h
  | .htup l, e, Nn, d, X, C, Wx, sc, cl, ct, Q, h => by
    simp only [ckE] at h
    split at h
    · exact snd_no (s_htup (sndA l _ _ _ X C Wx sc cl ct Q h)) rfl
    · cases h
  | .slx a lo hi k, e, Nn, d, X, C, Wx, sc, cl, ct, Q, h => by
    simp only [ckE] at h
    split at h
    · simp only [Bool.and_eq_true] at h
      obtain ⟨⟨⟨h1, h2⟩, h3⟩, h4⟩ := h
      refine snd_val ?_ (fun _ => rfl) fun _ _ _ _ _ q => by cases q
      have A := (sndE a _ _ _ X C Wx sc cl ct Q h2).1
      have L := sndO lo _ _ _ X C Wx sc cl ct Q h3
      have U := sndO hi _ _ _ X C Wx sc cl ct Q h4
      unfold isStep at h1
      split at h1
      · simp only [Bool.and_eq_true, beq_iff_eq, Bool.not_eq_true', beq_eq_false_iff_ne] at h1
        obtain ⟨rfl, h0⟩ := h1
        exact s_slx A L U (po_some pe_int) (fun σ H => ⟨_, rfl, rfl, rfl⟩) h0
      · simp only [Bool.and_eq_true, beq_iff_eq, Bool.not_eq_true', beq_eq_false_iff_ne] at h1
        obtain ⟨rfl, h0⟩ := h1
        exact s_slx A L U (po_some (pe_un un_neg pe_int)) (fun σ H => ⟨_, rfl, _, rfl, rfl, rfl⟩) h0
      · cases h1
    · cases h
  | .lzip a b, e, Nn, d, X, C, Wx, sc, cl, ct, Q, h => by
    simp only [ckE] at h
    split at h
    · simp only [Bool.and_eq_true, beq_iff_eq] at h
      obtain ⟨⟨⟨⟨⟨⟨⟨rfl, rfl⟩, h1⟩, h2⟩, h3⟩, h4⟩, h5⟩, h6⟩ := h
      exact snd_val (s_lzip ct (gl_of Q h1) (gl_of Q h2) (sndE a _ _ _ X C Wx sc cl ct Q h3).1 (sndE b _ _ _ X C Wx sc cl ct Q h4).1 (by rw [star_cons h5]) (star_cons h6) (by rw [star_cons h6]; rfl)) (fun _ => rfl) fun _ _ _ _ _ q => by cases q
    · cases h
  | .lens a, e, Nn, d, X, C, Wx, sc, cl, ct, Q, h => by
    simp only [ckE] at h
    split at h
    · simp only [Bool.and_eq_true, beq_iff_eq] at h
      obtain ⟨⟨⟨⟨⟨rfl, rfl⟩, h1⟩, h2⟩, h3⟩, h4⟩ := h
      exact snd_val (s_lenset ct (gl_of Q h1) (gl_of Q h2) (sndE a _ _ _ X C Wx sc cl ct Q h3).1 (star_cons h4)) (fun _ => rfl) fun _ _ _ _ _ q => by cases q
    · cases h
  | .lst l, e, Nn, d, X, C, Wx, sc, cl, ct, Q, h => by
    simp only [ckE] at h
    split at h
    · exact snd_no (s_lst (sndA l _ _ _ X C Wx sc cl ct Q h)) rfl
    · cases h
  | .mlst l, e, Nn, d, X, C, Wx, sc, cl, ct, Q, h => by
    simp only [ckE] at h
    split at h
    · exact snd_no (s_mlst (sndA l _ _ _ X C Wx sc cl ct Q h)) rfl
    · cases h
  | .sl a lo hi, e, Nn, d, X, C, Wx, sc, cl, ct, Q, h => by
    simp only [ckE] at h
    split at h
    · simp only [Bool.and_eq_true] at h
      obtain ⟨⟨h1, h2⟩, h3⟩ := h
      exact snd_val (s_sl ct (sndE a _ _ _ X C Wx sc cl ct Q h1).1 (sndO lo _ _ _ X C Wx sc cl ct Q h2) (sndO hi _ _ _ X C Wx sc cl ct Q h3)) (fun _ => rfl) fun _ _ _ _ _ q => by cases q
    · cases h
  | .rev a, e, Nn, d, X, C, Wx, sc, cl, ct, Q, h => by
    simp only [ckE] at h
    split at h
    · simp only [Bool.and_eq_true] at h
      obtain ⟨h1, h2⟩ := h
      unfold isOne at h1
      split at h1
      · have := eq_of_beq h1
        subst this
        exact snd_val (s_rev (sndE a _ _ _ X C Wx sc cl ct Q h2).1) (fun _ => rfl) fun _ _ _ _ _ q => by cases q
      · cases h1
    · cases h
  | .ix a b, e, Nn, d, X, C, Wx, sc, cl, ct, Q, h => by
    simp only [ckE] at h
    split at h
    · simp only [Bool.and_eq_true] at h
      obtain ⟨⟨h1, h2⟩, h3⟩ := h
      obtain ⟨p1, p2⟩ := plain_ix h3
      exact snd_val (s_ix ct (sndE a _ _ _ X C Wx sc cl ct Q h1).1 (sndE b _ _ _ X C Wx sc cl ct Q h2).1 p1 p2) (fun _ => rfl) fun _ _ _ _ _ q => by cases q
    · cases h
  | .call n l, e, Nn, d, X, C, Wx, sc, cl, ct, Q, h => by
    simp only [ckE] at h
    split at h
    · simp only [Bool.and_eq_true, beq_iff_eq] at h
      obtain ⟨⟨⟨h1, h2⟩, h3⟩, h4⟩ := h
      have st := ckA_head h4
      exact snd_val (s_call ct h1 (gl_of Q h2) (okName_of h3).1 (sndA l _ _ _ X C Wx sc cl ct Q h4) (star_cons st) (ckA_tail h4)) (fun _ => rfl) fun _ _ _ _ _ q => by cases q
    · cases h
  | .bi b l, e, Nn, d, X, C, Wx, sc, cl, ct, Q, h => by
    simp only [ckE] at h
    split at h
    · simp only [Bool.and_eq_true] at h
      obtain ⟨⟨h1, h2⟩, h3⟩ := h
      have st := ckA_head h3
      refine snd_val ?_ (fun _ => rfl) fun _ _ _ _ _ q => by cases q
      split at h1
      · have := eq_of_beq h1
        subst this
        exact s_mlist ct (gl_of Q h2) (sndA l _ _ _ X C Wx sc cl ct Q h3) (star_cons st) (ckA_tail h3)
      · split at h1
        · rename_i y k hb
          have := eq_of_beq h1
          subst this
          exact s_bi ct hb (gl_of Q h2) (sndA l _ _ _ X C Wx sc cl ct Q h3) (star_cons st) (ckA_tail h3)
        · cases h1
    · cases h
  | .meth m o l, e, Nn, d, X, C, Wx, sc, cl, ct, Q, h => by
    simp only [ckE] at h
    split at h
    · simp only [Bool.and_eq_true] at h
      obtain ⟨⟨⟨⟨h1, h2⟩, h3⟩, h4⟩, h5⟩ := h
      obtain ⟨a, rfl, h6, h7⟩ := ckA_one h3
      have L := sndA (.cons a .nil) _ _ _ X C Wx sc cl ct Q h3
      refine snd_val ?_ (fun _ => rfl) fun _ _ _ _ _ q => by cases q
      split at h1
      · have := eq_of_beq h1
        subst this
        exact s_append (sndE o _ _ _ X C Wx sc cl ct Q h2).1 L (base_of h4) (few_one h7) h5 (star_cons h7)
      · have := eq_of_beq h1
        subst this
        exact s_pop (sndE o _ _ _ X C Wx sc cl ct Q h2).1 L (base_of h4) (few_one h7) h5 (star_cons h7)
      · have := eq_of_beq h1
        subst this
        exact s_join ct (sndE o _ _ _ X C Wx sc cl ct Q h2).1 (sndE a _ _ _ X C Wx sc cl ct Q h6).1 (base_of h4) h5 (star_cons h7)
      · cases h1
    · cases h
  | .clo n l, e, Nn, d, X, C, Wx, sc, cl, ct, Q, h => by
    simp only [ckE] at h
    split at h
    · simp only [Bool.and_eq_true, beq_iff_eq] at h
      obtain ⟨⟨⟨⟨⟨h1, h2⟩, h3⟩, h4⟩, h5⟩, h6⟩ := h
      refine snd_val (s_clo ct h1 (gl_of Q h2) (okName_of h3).1 (lam_ok Q h4) h5 fun k hk A outer s H E f c' hr => ?_) (fun _ => rfl) fun _ _ _ _ _ q => by cases q
      subst hk
      exact (sndE l _ Nn.no k (lamCx X A outer s H E _ f c') C (fun cls d _ H => E cls d H) _ false (ct.lam A outer s H E _ f c' hr) (Sc.lam A outer s H E _ f c') h6).1
    · cases h
  | .lc t it ifs el own, e, Nn, d, X, C, Wx, sc, cl, ct, Q, h => by
    simp only [ckE] at h
    split at h
    · simp only [Bool.and_eq_true] at h
      obtain ⟨⟨⟨⟨⟨⟨h1, h2⟩, h3⟩, h4⟩, h5⟩, h6⟩, h7⟩ := h
      have ho : ∀ i ∈ tgV t, i ∈ own := fun i hi => by simpa using List.all_eq_true.mp h2 i hi
      have eo : (ownOf X.N own).map (·.2) = own := by unfold ownOf; rw [List.map_map]; exact List.map_id _
      refine snd_no ((pe_lc ct.calm ct.nd (sndI it _ _ _ _ X C Wx sc cl ct Q h4) (blk_ok Q h1)
        (fun s H D c fp => PG.ex fun xi => s_tg ((ct.blk xi s H _ _ fp).hK) ct.nd ct.calm (Sc.blk s H D c fp) t _ h3)
        (fun s H D c fp => PTs.ex fun xi => sndB ifs _ _ _ _ (C.at xi) WF _ true (ct.blk xi s H _ _ fp) (Sc.blk s H D c fp) h5)
        (fun s H D c fp => PE.ex fun xi => (sndE el _ _ _ _ (C.at xi) WF _ true (ct.blk xi s H _ _ fp) (Sc.blk s H D c fp) h6).1) (fold_no h7)).imp fun σ H R q => ?_) rfl
      rw [eo]
      exact i_lc ho q
    · cases h
  | .nil, e, Nn, d, X, C, Wx, sc, cl, ct, Q, h => snd_bad
  | .fnv _, e, Nn, d, X, C, Wx, sc, cl, ct, Q, h | .no, e, Nn, d, X, C, Wx, sc, cl, ct, Q, h | .lrng _, e, Nn, d, X, C, Wx, sc, cl, ct, Q, h | .rng _, e, Nn, d, X, C, Wx, sc, cl, ct, Q, h | .enum _, e, Nn, d, X, C, Wx, sc, cl, ct, Q, h | .zip .., e, Nn, d, X, C, Wx, sc, cl, ct, Q, h | .itr _, e, Nn, d, X, C, Wx, sc, cl, ct, Q, h | .cons .., e, Nn, d, X, C, Wx, sc, cl, ct, Q, h => by simp [ckE] at h
theorem sndA : ∀ (ir : E) (es : List Expr) (Nn : Nm) (d : Nat) (X : Cx) (C : Cn) (Wx : WX) (sc : Scope) (cl : Bool), Ct X C P Nn d Wx → Sc X sc cl → ckA Nn X.N sc ir es = true → PA X es (tA C P (callD P d) Wx ir)
  | .nil, es, Nn, d, X, C, Wx, sc, cl, ct, Q, h => by
    simp only [ckA] at h
    split at h
    · exact s_nil
    · cases h
  | .cons a b, es, Nn, d, X, C, Wx, sc, cl, ct, Q, h => by
    simp only [ckA] at h
    split at h
    · simp only [Bool.and_eq_true] at h
      exact s_cons (sndE a _ _ _ X C Wx sc cl ct Q h.1.1).1 (sndA b _ _ _ X C Wx sc cl ct Q h.1.2) (star_cons h.2)
    · cases h
  | .var _, e, Nn, d, X, C, Wx, sc, cl, ct, Q, h | .k _, e, Nn, d, X, C, Wx, sc, cl, ct, Q, h | .glob _, e, Nn, d, X, C, Wx, sc, cl, ct, Q, h | .fnv _, e, Nn, d, X, C, Wx, sc, cl, ct, Q, h | .bin .., e, Nn, d, X, C, Wx, sc, cl, ct, Q, h | .neg _, e, Nn, d, X, C, Wx, sc, cl, ct, Q, h | .cmp .., e, Nn, d, X, C, Wx, sc, cl, ct, Q, h | .chain .., e, Nn, d, X, C, Wx, sc, cl, ct, Q, h | .and .., e, Nn, d, X, C, Wx, sc, cl, ct, Q, h | .or .., e, Nn, d, X, C, Wx, sc, cl, ct, Q, h | .not _, e, Nn, d, X, C, Wx, sc, cl, ct, Q, h | .ife .., e, Nn, d, X, C, Wx, sc, cl, ct, Q, h
  | .tup _, e, Nn, d, X, C, Wx, sc, cl, ct, Q, h | .htup _, e, Nn, d, X, C, Wx, sc, cl, ct, Q, h | .lens _, e, Nn, d, X, C, Wx, sc, cl, ct, Q, h | .lst _, e, Nn, d, X, C, Wx, sc, cl, ct, Q, h | .mlst _, e, Nn, d, X, C, Wx, sc, cl, ct, Q, h | .ix .., e, Nn, d, X, C, Wx, sc, cl, ct, Q, h | .sl .., e, Nn, d, X, C, Wx, sc, cl, ct, Q, h | .slx .., e, Nn, d, X, C, Wx, sc, cl, ct, Q, h | .no, e, Nn, d, X, C, Wx, sc, cl, ct, Q, h | .rev _, e, Nn, d, X, C, Wx, sc, cl, ct, Q, h | .call .., e, Nn, d, X, C, Wx, sc, cl, ct, Q, h | .bi .., e, Nn, d, X, C, Wx, sc, cl, ct, Q, h | .meth .., e, Nn, d, X, C, Wx, sc, cl, ct, Q, h
  | .lc .., e, Nn, d, X, C, Wx, sc, cl, ct, Q, h | .lzip .., e, Nn, d, X, C, Wx, sc, cl, ct, Q, h | .lrng _, e, Nn, d, X, C, Wx, sc, cl, ct, Q, h | .rng _, e, Nn, d, X, C, Wx, sc, cl, ct, Q, h | .enum _, e, Nn, d, X, C, Wx, sc, cl, ct, Q, h | .zip .., e, Nn, d, X, C, Wx, sc, cl, ct, Q, h | .itr _, e, Nn, d, X, C, Wx, sc, cl, ct, Q, h | .clo .., e, Nn, d, X, C, Wx, sc, cl, ct, Q, h => by simp [ckA] at h
theorem sndO : ∀ (ir : E) (o : Option Expr) (Nn : Nm) (d : Nat) (X : Cx) (C : Cn) (Wx : WX) (sc : Scope) (cl : Bool), Ct X C P Nn d Wx → Sc X sc cl → ckO Nn X.N sc ir o = true → PO X o (tO C P (callD P d) Wx ir)
  | .no, o, Nn, d, X, C, Wx, sc, cl, ct, Q, h => by
    simp only [ckO] at h
    split at h
    · exact s_no
    · cases h
  | .itr a, o, Nn, d, X, C, Wx, sc, cl, ct, Q, h => by
    simp only [ckO] at h
    split at h
    · exact s_some (sndE a _ _ _ X C Wx sc cl ct Q h).1
    · cases h
  | .var _, e, Nn, d, X, C, Wx, sc, cl, ct, Q, h | .k _, e, Nn, d, X, C, Wx, sc, cl, ct, Q, h | .glob _, e, Nn, d, X, C, Wx, sc, cl, ct, Q, h | .fnv _, e, Nn, d, X, C, Wx, sc, cl, ct, Q, h | .bin .., e, Nn, d, X, C, Wx, sc, cl, ct, Q, h | .neg _, e, Nn, d, X, C, Wx, sc, cl, ct, Q, h | .cmp .., e, Nn, d, X, C, Wx, sc, cl, ct, Q, h | .chain .., e, Nn, d, X, C, Wx, sc, cl, ct, Q, h | .and .., e, Nn, d, X, C, Wx, sc, cl, ct, Q, h | .or .., e, Nn, d, X, C, Wx, sc, cl, ct, Q, h | .not _, e, Nn, d, X, C, Wx, sc, cl, ct, Q, h | .ife .., e, Nn, d, X, C, Wx, sc, cl, ct, Q, h
  | .tup _, e, Nn, d, X, C, Wx, sc, cl, ct, Q, h | .htup _, e, Nn, d, X, C, Wx, sc, cl, ct, Q, h | .lens _, e, Nn, d, X, C, Wx, sc, cl, ct, Q, h | .lst _, e, Nn, d, X, C, Wx, sc, cl, ct, Q, h | .mlst _, e, Nn, d, X, C, Wx, sc, cl, ct, Q, h | .ix .., e, Nn, d, X, C, Wx, sc, cl, ct, Q, h | .sl .., e, Nn, d, X, C, Wx, sc, cl, ct, Q, h | .slx .., e, Nn, d, X, C, Wx, sc, cl, ct, Q, h | .rev _, e, Nn, d, X, C, Wx, sc, cl, ct, Q, h | .call .., e, Nn, d, X, C, Wx, sc, cl, ct, Q, h | .bi .., e, Nn, d, X, C, Wx, sc, cl, ct, Q, h | .meth .., e, Nn, d, X, C, Wx, sc, cl, ct, Q, h
  | .lc .., e, Nn, d, X, C, Wx, sc, cl, ct, Q, h | .lzip .., e, Nn, d, X, C, Wx, sc, cl, ct, Q, h | .lrng _, e, Nn, d, X, C, Wx, sc, cl, ct, Q, h | .rng _, e, Nn, d, X, C, Wx, sc, cl, ct, Q, h | .enum _, e, Nn, d, X, C, Wx, sc, cl, ct, Q, h | .zip .., e, Nn, d, X, C, Wx, sc, cl, ct, Q, h | .clo .., e, Nn, d, X, C, Wx, sc, cl, ct, Q, h | .nil, e, Nn, d, X, C, Wx, sc, cl, ct, Q, h | .cons .., e, Nn, d, X, C, Wx, sc, cl, ct, Q, h => by simp [ckO] at h
theorem sndB : ∀ (ir : E) (es : List Expr) (Nn : Nm) (d : Nat) (X : Cx) (C : Cn) (Wx : WX) (sc : Scope) (cl : Bool), Ct X C P Nn d Wx → Sc X sc cl → ckB Nn X.N sc ir es = true → PTs X es (tBs C P (callD P d) Wx ir)
  | .nil, es, Nn, d, X, C, Wx, sc, cl, ct, Q, h => by
    simp only [ckB] at h
    split at h
    · exact s_bs0
    · cases h
  | .cons a b, es, Nn, d, X, C, Wx, sc, cl, ct, Q, h => by
    simp only [ckB] at h
    split at h
    · simp only [Bool.and_eq_true] at h
      obtain ⟨⟨h1, h2⟩, h3⟩ := h
      split at h3
      · exact s_bs1 ((sndE a _ _ _ X C Wx sc cl ct Q h1).2.1 h2)
      · cases h3
    · cases h
  | .var _, e, Nn, d, X, C, Wx, sc, cl, ct, Q, h | .k _, e, Nn, d, X, C, Wx, sc, cl, ct, Q, h | .glob _, e, Nn, d, X, C, Wx, sc, cl, ct, Q, h | .fnv _, e, Nn, d, X, C, Wx, sc, cl, ct, Q, h | .bin .., e, Nn, d, X, C, Wx, sc, cl, ct, Q, h | .neg _, e, Nn, d, X, C, Wx, sc, cl, ct, Q, h | .cmp .., e, Nn, d, X, C, Wx, sc, cl, ct, Q, h | .chain .., e, Nn, d, X, C, Wx, sc, cl, ct, Q, h | .and .., e, Nn, d, X, C, Wx, sc, cl, ct, Q, h | .or .., e, Nn, d, X, C, Wx, sc, cl, ct, Q, h | .not _, e, Nn, d, X, C, Wx, sc, cl, ct, Q, h | .ife .., e, Nn, d, X, C, Wx, sc, cl, ct, Q, h
  | .tup _, e, Nn, d, X, C, Wx, sc, cl, ct, Q, h | .htup _, e, Nn, d, X, C, Wx, sc, cl, ct, Q, h | .lens _, e, Nn, d, X, C, Wx, sc, cl, ct, Q, h | .lst _, e, Nn, d, X, C, Wx, sc, cl, ct, Q, h | .mlst _, e, Nn, d, X, C, Wx, sc, cl, ct, Q, h | .ix .., e, Nn, d, X, C, Wx, sc, cl, ct, Q, h | .sl .., e, Nn, d, X, C, Wx, sc, cl, ct, Q, h | .slx .., e, Nn, d, X, C, Wx, sc, cl, ct, Q, h | .no, e, Nn, d, X, C, Wx, sc, cl, ct, Q, h | .rev _, e, Nn, d, X, C, Wx, sc, cl, ct, Q, h | .call .., e, Nn, d, X, C, Wx, sc, cl, ct, Q, h | .bi .., e, Nn, d, X, C, Wx, sc, cl, ct, Q, h | .meth .., e, Nn, d, X, C, Wx, sc, cl, ct, Q, h
  | .lc .., e, Nn, d, X, C, Wx, sc, cl, ct, Q, h | .lzip .., e, Nn, d, X, C, Wx, sc, cl, ct, Q, h | .lrng _, e, Nn, d, X, C, Wx, sc, cl, ct, Q, h | .rng _, e, Nn, d, X, C, Wx, sc, cl, ct, Q, h | .enum _, e, Nn, d, X, C, Wx, sc, cl, ct, Q, h | .zip .., e, Nn, d, X, C, Wx, sc, cl, ct, Q, h | .itr _, e, Nn, d, X, C, Wx, sc, cl, ct, Q, h | .clo .., e, Nn, d, X, C, Wx, sc, cl, ct, Q, h => by simp [ckB] at h
theorem sndI : ∀ (ir : E) (tg e : Expr) (Nn : Nm) (d : Nat) (X : Cx) (C : Cn) (Wx : WX) (sc : Scope) (cl : Bool), Ct X C P Nn d Wx → Sc X sc cl → ckI Nn X.N sc ir tg e = true → PI X tg e (tI C P (callD P d) Wx ir)
  | .itr a, tg, e, Nn, d, X, C, Wx, sc, cl, ct, Q, h => by
    simp only [ckI] at h
    exact s_itr ct (sndE a _ _ _ X C Wx sc cl ct Q h).1
  | .enum a, tg, e, Nn, d, X, C, Wx, sc, cl, ct, Q, h => by
    simp only [ckI] at h
    split at h
    · simp only [Bool.and_eq_true, beq_iff_eq] at h
      obtain ⟨⟨⟨rfl, h1⟩, h2⟩, h3⟩ := h
      exact s_enum ct (gl_of Q h1) (sndE a _ _ _ X C Wx sc cl ct Q h2).1 (star_cons h3)
    · cases h
  | .zip a b, tg, e, Nn, d, X, C, Wx, sc, cl, ct, Q, h => by
    simp only [ckI] at h
    split at h
    · simp only [Bool.and_eq_true, beq_iff_eq] at h
      obtain ⟨⟨⟨⟨⟨rfl, h1⟩, h2⟩, h3⟩, h4⟩, h5⟩ := h
      exact s_zip ct (gl_of Q h1) (sndE a _ _ _ X C Wx sc cl ct Q h2).1 (sndE b _ _ _ X C Wx sc cl ct Q h3).1 (by rw [star_cons h4]) (star_cons h5) (by rw [star_cons h5]; rfl)
    · cases h
  | .rng l, tg, e, Nn, d, X, C, Wx, sc, cl, ct, Q, h => by
    simp only [ckI] at h
    split at h
    · simp only [Bool.and_eq_true, beq_iff_eq] at h
      obtain ⟨⟨rfl, h2⟩, h3⟩ := h
      obtain ⟨a, rfl, h4, h5⟩ := ckA_one h3
      exact s_rng1 ct (gl_of Q h2) (sndA (.cons a .nil) _ _ _ X C Wx sc cl ct Q h3) (star_cons h5)
    · simp only [Bool.and_eq_true, beq_iff_eq] at h
      obtain ⟨⟨rfl, h2⟩, h3⟩ := h
      obtain ⟨a, b, rfl, h4, h5, h6, h7⟩ := ckA_two h3
      exact s_rng2 ct (gl_of Q h2) (sndA (.cons a (.cons b .nil)) _ _ _ X C Wx sc cl ct Q h3) (by rw [star_cons h5, star_cons h7]; rfl) (star_cons h7)
    · cases h
  | .nil, tg, e, Nn, d, X, C, Wx, sc, cl, ct, Q, h => pi_bad
  | .var _, tg, e, Nn, d, X, C, Wx, sc, cl, ct, Q, h | .k _, tg, e, Nn, d, X, C, Wx, sc, cl, ct, Q, h | .glob _, tg, e, Nn, d, X, C, Wx, sc, cl, ct, Q, h | .fnv _, tg, e, Nn, d, X, C, Wx, sc, cl, ct, Q, h | .bin .., tg, e, Nn, d, X, C, Wx, sc, cl, ct, Q, h | .neg _, tg, e, Nn, d, X, C, Wx, sc, cl, ct, Q, h | .cmp .., tg, e, Nn, d, X, C, Wx, sc, cl, ct, Q, h | .chain .., tg, e, Nn, d, X, C, Wx, sc, cl, ct, Q, h | .and .., tg, e, Nn, d, X, C, Wx, sc, cl, ct, Q, h | .or .., tg, e, Nn, d, X, C, Wx, sc, cl, ct, Q, h | .not _, tg, e, Nn, d, X, C, Wx, sc, cl, ct, Q, h | .ife .., tg, e, Nn, d, X, C, Wx, sc, cl, ct, Q, h
  | .tup _, tg, e, Nn, d, X, C, Wx, sc, cl, ct, Q, h | .htup _, tg, e, Nn, d, X, C, Wx, sc, cl, ct, Q, h | .lens _, tg, e, Nn, d, X, C, Wx, sc, cl, ct, Q, h | .lst _, tg, e, Nn, d, X, C, Wx, sc, cl, ct, Q, h | .mlst _, tg, e, Nn, d, X, C, Wx, sc, cl, ct, Q, h | .ix .., tg, e, Nn, d, X, C, Wx, sc, cl, ct, Q, h | .sl .., tg, e, Nn, d, X, C, Wx, sc, cl, ct, Q, h | .slx .., tg, e, Nn, d, X, C, Wx, sc, cl, ct, Q, h | .no, tg, e, Nn, d, X, C, Wx, sc, cl, ct, Q, h | .rev _, tg, e, Nn, d, X, C, Wx, sc, cl, ct, Q, h | .call .., tg, e, Nn, d, X, C, Wx, sc, cl, ct, Q, h | .bi .., tg, e, Nn, d, X, C, Wx, sc, cl, ct, Q, h | .meth .., tg, e, Nn, d, X, C, Wx, sc, cl, ct, Q, h
  | .lc .., tg, e, Nn, d, X, C, Wx, sc, cl, ct, Q, h | .lzip .., tg, e, Nn, d, X, C, Wx, sc, cl, ct, Q, h | .lrng _, tg, e, Nn, d, X, C, Wx, sc, cl, ct, Q, h | .clo .., tg, e, Nn, d, X, C, Wx, sc, cl, ct, Q, h | .cons .., tg, e, Nn, d, X, C, Wx, sc, cl, ct, Q, h => by simp [ckI] at h
end
end
end G

set_option Elab.async false
set_option linter.all false
set_option autoImplicit false
set_option maxRecDepth 100000
set_option maxHeartbeats 2000000
/-! GB: statements, one by one. -/
namespace G
open PySem PySem.Spec PyProof.Rows L2
/-- what is wanted behind a statement -/
def ResS (C : Cn) (ρ : List Addr) (H : Hp) (r : RS) (D : Ends) (Wx : WX) : Prop :=
  match r with
  | .ok .nx env s => ∀ ρ' H' σ', Gr ρ H ρ' H' → SR C ρ' H' s → EnvR C ρ' H' env σ' → D.nx σ' H'
  | .ok .bk env s => ∀ ρ' H' σ', Gr ρ H ρ' H' → SR C ρ' H' s → EnvR C ρ' H' env σ' → D.bk σ' H'
  | .ok .ct env s => ∀ ρ' H' σ', Gr ρ H ρ' H' → SR C ρ' H' s → EnvR C ρ' H' env σ' → D.ct σ' H'
  | .ok (.rt w) _ s => ∀ ρ' H' v, Gr ρ H ρ' H' → SR C ρ' H' s → Rep C ρ' H' w v → D.rt v H'
  | .exc c _ env s => ∀ ρ' H' σ' a d, Gr ρ H ρ' H' → SR C ρ' H' s → EnvR C ρ' H' env σ' → C.ca c = some a → Wx (.ref a) d σ' H'
  | .err => False
section
variable {X : Cx} {C : Cn} {P : Pg} {Nn : Nm} {d : Nat} {Wx : WX} {call : Nat → List W → M W} {ρ ρ' : List Addr} {H H' : Hp} {D : Ends}
theorem ResS.mono {r : RS} (h : ResS C ρ H r D Wx) (g : Gr ρ H ρ' H') : ResS C ρ' H' r D Wx := by
  cases r with
  | err => exact h
  | exc c l env s => exact fun ρ2 H2 σ2 a d g2 => h ρ2 H2 σ2 a d (g.trans g2)
  | ok f env s => cases f <;> exact fun ρ2 H2 σ2 g2 => h ρ2 H2 σ2 (g.trans g2)
def tS (C : Cn) (P : Pg) (call : Nat → List W → M W) (Wx : WX) (ir : S) : TS := fun D σ H => ∃ ρ s env, EnvR C ρ H env σ ∧ SR C ρ H s ∧ ResS C ρ H (evS P call ir env s) D Wx
theorem _root_.L2.PS.imp {e : Stmt} {t t' : TS} (h : PS X e t) (k : ∀ D σ H, t' D σ H → t D σ H) : PS X e t' := ⟨fun pins s σ H D I q => h.run pins s σ H D I (k D σ H q)⟩
theorem _root_.L2.PSs.imp {e : List Stmt} {t t' : TS} (h : PSs X e t) (k : ∀ D σ H, t' D σ H → t D σ H) : PSs X e t' := ⟨fun pins s σ H D I q => h.run pins s σ H D I (k D σ H q)⟩
/-- a part ahead of the rest -/
theorem ResS.eS {α β : Type} {Rl : List Addr → Hp → α → β → Prop} {m : M α} {f : α → ST → RS} {s : ST} {env : Env} {σ : L2.St} (eR : EnvR C ρ H env σ) (h : ResS C ρ H (G.eS m env f s) D Wx) {K : β → Hp → Prop}
    (k : ∀ ρ1 H1 s1 a v, Gr ρ H ρ1 H1 → EnvR C ρ1 H1 env σ → SR C ρ1 H1 s1 → Rl ρ1 H1 a v → ResS C ρ1 H1 (f a s1) D Wx → K v H1) : ResG C Rl ρ H (m s) K (WE Wx σ) := by
  unfold G.eS at h
  cases e : m s with
  | ok a s1 =>
    rw [e] at h
    exact fun ρ1 H1 v g S r => k ρ1 H1 s1 a v g (eR.mono g) S r (h.mono g)
  | exc c l s1 => rw [e] at h; exact fun ρ1 H1 a d g S ec => h ρ1 H1 σ a d g S (eR.mono g) ec
  | err => rw [e] at h; exact h
theorem tE.eS {a : E} {f : W → ST → RS} {s : ST} {env : Env} {σ : L2.St} {K : V → Hp → Prop} (eR : EnvR C ρ H env σ) (S : SR C ρ H s) (h : ResS C ρ H (G.eS (evE P call a env) env f s) D Wx)
    (k : ∀ ρ1 H1 s1 x v, Gr ρ H ρ1 H1 → EnvR C ρ1 H1 env σ → SR C ρ1 H1 s1 → Rep C ρ1 H1 x v → ResS C ρ1 H1 (f x s1) D Wx → K v H1) : tE C P call Wx a σ H K :=
  ⟨ρ, s, env, eR, S, ResS.eS (Rl := RepR C) eR h k⟩
theorem tT.eS {a : E} {f : W → ST → RS} {s : ST} {env : Env} {σ : L2.St} {K : Bool → Hp → Prop} (eR : EnvR C ρ H env σ) (S : SR C ρ H s) (h : ResS C ρ H (G.eS (evE P call a env) env f s) D Wx)
    (hf : ∀ x s, (∀ b, x ≠ .bl b) → f x s = .err)
    (k : ∀ ρ1 H1 s1 b, Gr ρ H ρ1 H1 → EnvR C ρ1 H1 env σ → SR C ρ1 H1 s1 → ResS C ρ1 H1 (f (.bl b) s1) D Wx → K b H1) : tT C P call Wx a σ H K := by
  refine ⟨ρ, s, env, eR, S, ?_⟩
  unfold asB G.bnd
  unfold G.eS at h
  cases e : evE P call a env s with
  | ok x s1 =>
    rw [e] at h
    by_cases hb : ∃ b, x = .bl b
    · obtain ⟨b, rfl⟩ := hb
      exact fun ρ1 H1 v g S1 r => by
        have r : b = v := r
        subst r
        exact k ρ1 H1 s1 b g (eR.mono g) S1 (h.mono g)
    · have := hf x s1 (fun b q => hb ⟨b, q⟩)
      simp only [this] at h
      exact h.elim
  | exc c l s1 => rw [e] at h; exact fun ρ1 H1 a d g S ec => h ρ1 H1 σ a d g S (eR.mono g) ec
  | err => rw [e] at h; exact h
/-! blocks -/
theorem ss_nil : PSs X [] (tS C P call Wx .nil) := by
  refine pss_nil.imp fun D σ H ⟨ρ, s, env, eR, S, h⟩ => ?_
  simp only [evS] at h
  exact h ρ H σ Gr.refl S eR
theorem ss_seq {a b : S} {st : Stmt} {rest : List Stmt} (ha : PS X st (tS C P call Wx a)) (hb : PSs X rest (tS C P call Wx b)) : PSs X (st :: rest) (tS C P call Wx (.seq a b)) := by
  refine (pss_cons ha hb).imp fun D σ H ⟨ρ, s, env, eR, S, h⟩ => ?_
  refine ⟨ρ, s, env, eR, S, ?_⟩
  simp only [evS] at h
  cases e : evS P call a env s with
  | err => rw [e] at h; exact h
  | exc c l env' s' => rw [e] at h; exact h
  | ok f env' s' =>
    rw [e] at h
    cases f with
    | nx => exact fun ρ1 H1 σ1 g S1 eR1 => ⟨ρ1, s', env', eR1, S1, h.mono g⟩
    | bk => exact h
    | ct => exact h
    | rt w => exact h
theorem ss_pass {pos : Pos} : PS X (.Pass pos) (tS C P call Wx .pass) := by
  refine ps_pass.imp fun D σ H ⟨ρ, s, env, eR, S, h⟩ => ?_
  simp only [evS] at h
  exact h ρ H σ Gr.refl S eR
theorem ss_brk {pos : Pos} : PS X (.Break pos) (tS C P call Wx .brk) := by
  refine ps_break.imp fun D σ H ⟨ρ, s, env, eR, S, h⟩ => ?_
  simp only [evS] at h
  exact h ρ H σ Gr.refl S eR
theorem ss_cnt {pos : Pos} : PS X (.Continue pos) (tS C P call Wx .cnt) := by
  refine ps_continue.imp fun D σ H ⟨ρ, s, env, eR, S, h⟩ => ?_
  simp only [evS] at h
  exact h ρ H σ Gr.refl S eR
theorem ss_rtn {pos : Pos} : PS X (.Return none pos) (tS C P call Wx .rtn) := by
  refine ps_retN.imp fun D σ H ⟨ρ, s, env, eR, S, h⟩ => ?_
  simp only [evS] at h
  exact h ρ H .non Gr.refl S Rep.mkN
theorem ss_rt {a : E} {ea : Expr} {pos : Pos} (ha : PE X ea (tE C P call Wx a)) : PS X (.Return (some ea) pos) (tS C P call Wx (.rt a)) := by
  refine (ps_ret ha).imp fun D σ H ⟨ρ, s, env, eR, S, h⟩ => ?_
  simp only [evS] at h
  exact tE.eS eR S h fun ρ1 H1 s1 x v g eR1 S1 r h1 => h1 ρ1 H1 v Gr.refl S1 r
theorem ss_expr {a : E} {ea : Expr} {pos : Pos} (ha : PE X ea (tE C P call Wx a)) (hs : swapsWith ea none pos.line X.env = pure false) : PS X (.Expr ea pos) (tS C P call Wx (.expr a)) := by
  refine (ps_expr ha hs).imp fun D σ H ⟨ρ, s, env, eR, S, h⟩ => ?_
  simp only [evS] at h
  exact tE.eS eR S h fun ρ1 H1 s1 x v g eR1 S1 r h1 => h1 ρ1 H1 σ Gr.refl S1 eR1
theorem ss_ife {c : E} {a b : S} {ec : Expr} {sa sb : List Stmt} {pos : Pos} (hc : PT X ec (tT C P call Wx c)) (ha : PSs X sa (tS C P call Wx a)) (hb : PSs X sb (tS C P call Wx b)) : PS X (.If ec sa sb pos) (tS C P call Wx (.ife c a b)) := by
  refine (ps_if hc ha hb).imp fun D σ H ⟨ρ, s, env, eR, S, h⟩ => ?_
  simp only [evS] at h
  refine tT.eS eR S h (fun x s hx => ?_) fun ρ1 H1 s1 k g eR1 S1 h1 => ?_
  · cases x <;> first | rfl | exact (hx _ rfl).elim
  · cases k with
    | true => exact ⟨ρ1, s1, env, eR1, S1, h1⟩
    | false => exact ⟨ρ1, s1, env, eR1, S1, h1⟩
theorem ss_asg {t : T} {a : E} {tg ea : Expr} {pos : Pos} (ha : PE X ea (tE C P call Wx a)) (hg : PG X tg (tG C t)) (hs : swapsWithSole [tg] ea pos.line X.env = pure false) (hw : swappedStores [tg] ea X.env = pure none) (h1 : (assignEach [tg] X.env).map (·.2) = [assign tg X.env]) :
    PS X (.Assign [tg] ea pos) (tS C P call Wx (.asg t a)) := by
  refine (ps_asg ha hg hs hw h1).imp fun D σ H ⟨ρ, s, env, eR, S, h⟩ => ?_
  simp only [evS] at h
  refine tE.eS eR S h fun ρ1 H1 s1 x v g eR1 S1 r h1 => ?_
  split at h1
  · rename_i env' e
    exact ⟨ρ1, s1, env, x, env', eR1, S1, r, e, fun σ' eR' _ => h1 ρ1 H1 σ' Gr.refl S1 eR'⟩
  · exact h1.elim
/-- an assignment of a list made by a comprehension, on one line -/
theorem i_asgL {i : Nat} {a : E} {σ : L2.St} {H : Hp} {D : Ends} (h : tS C P call Wx (.asg (.v i) a) D σ H) : tAsg (tE C P call Wx a) (gName i) D σ H := by
  obtain ⟨ρ, s, env, eR, S, h⟩ := h
  simp only [evS] at h
  refine tE.eS eR S h fun ρ1 H1 s1 x v g eR1 S1 r h1 => ?_
  simp only [asg] at h1
  split at h1
  · rename_i env' e
    split at e
    · cases e
      exact h1 ρ1 H1 _ Gr.refl S1 (eR1.set r)
    · cases e
  · exact h1.elim
theorem ss_par2 {i j : Nat} {x y : Str} {a b : E} {ea eb : Expr} {px py pt pos : Pos} {kt k2 pt2} (ct : Ct X C P Nn d Wx) (hi : X.N[i]? = some x) (hj : X.N[j]? = some y) (hij : i ≠ j)
    (hx : X.env.scope.names.lookup x = some .local) (hy : X.env.scope.names.lookup y = some .local) (ha : PA X [ea, eb] (tA C P call Wx (.cons a (.cons b .nil))))
    (hw : swappedStores [.Tuple [.Name x px, .Name y py] kt pt] (.Tuple [ea, eb] k2 pt2) X.env = pure (some [x, y])) : PS X (.Assign [.Tuple [.Name x px, .Name y py] kt pt] (.Tuple [ea, eb] k2 pt2) pos) (tS C P call Wx (.par2 i j a b)) := by
  refine (ps_par ct.calm ct.nd hi hj hij hx hy ha hw).imp fun D σ H ⟨ρ, s, env, eR, S, h⟩ => ?_
  simp only [evS] at h
  refine ⟨ρ, s, env, eR, S, ?_⟩
  simp only [evA]
  have h' : ResS C ρ H (G.eS (G.bnd (evE P call a env) fun x => G.bnd (G.bnd (evE P call b env) fun x => G.bnd (G.ret []) fun xs => G.ret (x :: xs)) fun xs => G.ret (x :: xs)) env (fun l s'' => match l with
      | [x, y] => if i < env.length ∧ j < env.length ∧ i ≠ j then .ok .nx ((env.set i (some x)).set j (some y)) s'' else .err
      | _ => .err) s) D Wx := by
    unfold G.eS G.bnd G.ret at *
    cases e : evE P call a env s with
    | ok x s1 =>
      rw [e] at h
      simp only at h ⊢
      cases e2 : evE P call b env s1 with
      | ok y s2 => rw [e2] at h; exact h
      | exc c l s2 => rw [e2] at h; exact h
      | err => rw [e2] at h; exact h
    | exc c l s1 => rw [e] at h; exact h
    | err => rw [e] at h; exact h
  refine ResS.eS (Rl := RepsR C) eR h' fun ρ1 H1 s1 l vs g eR1 S1 r h1 => ?_
  match l, h1 with
  | [x, y], h1 =>
    obtain ⟨v, us, rfl, r1, r2⟩ := r.cons'
    obtain ⟨u, rfl, r3⟩ := rep1 r2
    dsimp only at h1
    split at h1
    · exact ⟨v, u, rfl, h1 ρ1 H1 _ Gr.refl S1 ((eR1.set r1).set r3)⟩
    · exact h1.elim
  | [], h1 => exact h1.elim
  | [_], h1 => exact h1.elim
  | _ :: _ :: _ :: _, h1 => exact h1.elim
theorem ss_par3 {i j l : Nat} {x y z : Str} {a b c : E} {ea eb ec : Expr} {px py pz pt pos : Pos} {kt k2 pt2} (ct : Ct X C P Nn d Wx) (hi : X.N[i]? = some x) (hj : X.N[j]? = some y) (hl : X.N[l]? = some z) (hij : i ≠ j) (hil : i ≠ l) (hjl : j ≠ l)
    (hx : X.env.scope.names.lookup x = some .local) (hy : X.env.scope.names.lookup y = some .local) (hz : X.env.scope.names.lookup z = some .local) (ha : PA X [ea, eb, ec] (tA C P call Wx (.cons a (.cons b (.cons c .nil)))))
    (hw : swappedStores [.Tuple [.Name x px, .Name y py, .Name z pz] kt pt] (.Tuple [ea, eb, ec] k2 pt2) X.env = pure (some [x, y, z])) : PS X (.Assign [.Tuple [.Name x px, .Name y py, .Name z pz] kt pt] (.Tuple [ea, eb, ec] k2 pt2) pos) (tS C P call Wx (.par3 i j l a b c)) := by
  refine (ps_par3 ct.calm ct.nd hi hj hl hij hil hjl hx hy hz ha hw).imp fun D σ H ⟨ρ, s, env, eR, S, h⟩ => ?_
  simp only [evS] at h
  refine ⟨ρ, s, env, eR, S, ?_⟩
  simp only [evA]
  have h' : ResS C ρ H (G.eS (G.bnd (evE P call a env) fun x => G.bnd (G.bnd (evE P call b env) fun x => G.bnd (G.bnd (evE P call c env) fun x => G.bnd (G.ret []) fun xs => G.ret (x :: xs)) fun xs => G.ret (x :: xs)) fun xs => G.ret (x :: xs)) env (fun q s'' => match q with
      | [x, y, z] => if i < env.length ∧ j < env.length ∧ l < env.length ∧ i ≠ j ∧ i ≠ l ∧ j ≠ l then .ok .nx (((env.set i (some x)).set j (some y)).set l (some z)) s'' else .err
      | _ => .err) s) D Wx := by
    unfold G.eS G.bnd G.ret at *
    cases e : evE P call a env s with
    | ok x s1 =>
      rw [e] at h
      simp only at h ⊢
      cases e2 : evE P call b env s1 with
      | ok y s2 =>
        rw [e2] at h
        simp only at h ⊢
        cases e3 : evE P call c env s2 with
        | ok z s3 => rw [e3] at h; exact h
        | exc c l s2 => rw [e3] at h; exact h
        | err => rw [e3] at h; exact h
      | exc c l s2 => rw [e2] at h; exact h
      | err => rw [e2] at h; exact h
    | exc c l s1 => rw [e] at h; exact h
    | err => rw [e] at h; exact h
  refine ResS.eS (Rl := RepsR C) eR h' fun ρ1 H1 s1 l vs g eR1 S1 r h1 => ?_
  match l, h1 with
  | [x, y, z], h1 =>
    obtain ⟨v, us, rfl, r1, r2⟩ := r.cons'
    obtain ⟨v2, us2, rfl, r3, r4⟩ := r2.cons'
    obtain ⟨u, rfl, r5⟩ := rep1 r4
    dsimp only at h1
    split at h1
    · exact ⟨v, v2, u, rfl, h1 ρ1 H1 _ Gr.refl S1 (((eR1.set r1).set r3).set r5)⟩
    · exact h1.elim
  | [], h1 => exact h1.elim
  | [_], h1 => exact h1.elim
  | [_, _], h1 => exact h1.elim
  | _ :: _ :: _ :: _ :: _, h1 => exact h1.elim
/-- o[i] = e -/
theorem ss_seti {o i e : E} {eo ei ee : Expr} {tpos pos : Pos} (ho : PE X eo (tE C P call Wx o)) (hi : PE X ei (tE C P call Wx i)) (he : PE X ee (tE C P call Wx e)) (hp : plainIx ei = true)
    (hs : swapsWithSole [.Subscript eo ei tpos] ee pos.line X.env = pure false) (hw : swappedStores [.Subscript eo ei tpos] ee X.env = pure none) : PS X (.Assign [.Subscript eo ei tpos] ee pos) (tS C P call Wx (.seti o i e)) := by
  refine (ps_asg he (pg_sub ho hi set_list (by cases ei <;> first | (intro v; rfl) | (simp [plainIx] at hp))) hs hw rfl).imp fun D σ H ⟨ρ, s, env, eR, S, h⟩ => ?_
  simp only [evS] at h
  refine tE.eS eR S h fun ρ1 H1 s1 w v g1 eR1 S1 r1 h1 => ?_
  refine tE.eS eR1 S1 h1 fun ρ2 H2 s2 x u g2 eR2 S2 r2 h2 => ?_
  refine tE.eS eR2 S2 h2 fun ρ3 H3 s3 y k g3 eR3 S3 r3 h3 => ?_
  cases x <;> try exact h3.elim
  rename_i n
  cases y <;> try exact h3.elim
  rename_i j
  dsimp only at h3
  split at h3
  · rename_i ys es
    split at h3
    · rename_i jj ej
      obtain ⟨p, ep, rfl⟩ := (r2.mono g3).ref
      obtain ⟨p', vs, a1, a2, a3⟩ := S3.at_ n ys es
      rw [ep] at a1; cases a1
      have rw' := (r1.mono g2).mono g3
      obtain ⟨g, S'⟩ := S3.write es ep a2 (a3.set jj rw')
      have e5 : ixN vs.length j = some jj := by rw [ix_eq, ← a3.length]; exact ej
      exact ⟨p, vs, j, jj, rfl, r3.int, a2, e5, h3 ρ3 _ σ g S' (eR3.mono g)⟩
    · exact h3.elim
  · exact h3.elim
/-! loops -/
theorem ss_whl {c : E} {b : S} {ec : Expr} {sb : List Stmt} {pos : Pos} (hp : PassesOwn (model X.prog X.w) X.A X.env X.xe) (hc : PT X ec (tT C P call Wx c)) (hb : PSs X sb (tS C P call Wx b)) : PS X (.While ec sb [] pos) (tS C P call Wx (.whl c b)) := by
  refine (ps_while hp hc hb).imp fun D σ H ⟨ρ, s, env, eR, S, h⟩ => ?_
  simp only [evS] at h
  refine ⟨fun m σ H => ∃ ρ s env, EnvR C ρ H env σ ∧ SR C ρ H s ∧ ResS C ρ H (whileS (fun env => evE P call c env) (fun env s => evS P call b env s) m env s) D Wx, ⟨P.fuel, ρ, s, env, eR, S, h⟩, ?_⟩
  rintro m σ H ⟨ρ, s, env, eR, S, h⟩
  cases m with
  | zero => exact h.elim
  | succ m =>
    simp only [whileS] at h
    refine tT.eS eR S h (fun x s hx => ?_) fun ρ1 H1 s1 k g eR1 S1 h1 => ?_
    · cases x <;> first | rfl | exact (hx _ rfl).elim
    · cases k with
      | false => exact h1 ρ1 H1 σ Gr.refl S1 eR1
      | true =>
        refine ⟨fun σ' H' => ∃ ρ s env, EnvR C ρ H' env σ' ∧ SR C ρ H' s ∧ ResS C ρ H' (whileS (fun env => evE P call c env) (fun env s => evS P call b env s) m env s) D Wx, fun σ' H' q => ⟨m, Nat.lt_succ_self m, q⟩, ρ1, s1, env, eR1, S1, ?_⟩
        dsimp only at h1
        cases e : evS P call b env s1 with
        | err => rw [e] at h1; exact h1
        | exc c l env' s' => rw [e] at h1; exact h1
        | ok f env' s' =>
          rw [e] at h1
          cases f with
          | nx => exact fun ρ2 H2 σ2 g2 S2 eR2 => ⟨ρ2, s', env', eR2, S2, h1.mono g2⟩
          | ct => exact fun ρ2 H2 σ2 g2 S2 eR2 => ⟨ρ2, s', env', eR2, S2, h1.mono g2⟩
          | bk => exact h1
          | rt w => exact h1
/-- the rounds by index -/
def forI (src : Src) (b : W → Env → ST → RS) : Nat → Nat → Env → ST → RS
  | 0, _, _, _ => .err
  | m + 1, i, env, s => match srcAt src i s with
    | none => .err
    | some none => .ok .nx env s
    | some (some x) => match b x env s with
      | .ok .nx env' s' => forI src b m (i + 1) env' s'
      | .ok .ct env' s' => forI src b m (i + 1) env' s'
      | .ok .bk env' s' => .ok .nx env' s'
      | .ok (.rt w) env' s' => .ok (.rt w) env' s'
      | .exc c l env' s' => .exc c l env' s'
      | .err => .err
theorem forS_I (b : W → Env → ST → RS) (all : List W) : ∀ (xs : List W) (i : Nat) (env : Env) (s : ST), all.drop i = xs → forS b xs env s = forI (.row all) b (xs.length + 1) i env s
  | [], i, env, s, hd => by
    have hl : all.length ≤ i := List.drop_eq_nil_iff.mp hd
    simp only [forS, forI, srcAt, List.getElem?_eq_none hl]
  | x :: xs, i, env, s, hd => by
    have hx : all[i]? = some x := by
      have := congrArg (fun l => l[0]?) hd
      simpa [List.getElem?_drop] using this
    have hd' : all.drop (i + 1) = xs := by
      have := congrArg (List.drop 1) hd
      simpa [List.drop_drop] using this
    have ih := fun env s => forS_I b all xs (i + 1) env s hd'
    rw [List.length_cons]
    unfold forS forI
    simp only [srcAt, hx]
    cases e : b x env s with
    | err => rfl
    | exc c l env' s' => rfl
    | ok f env' s' =>
      cases f with
      | nx => exact ih env' s'
      | ct => exact ih env' s'
      | bk => rfl
      | rt w => rfl
theorem forL_I (b : W → Env → ST → RS) (src : Src) (g : Nat → W → W) (n : Nat) (hs : ∀ i s, srcAt src i s = (liveAt n i s).map fun o => o.map (g i)) : ∀ (k i : Nat) (env : Env) (s : ST), forL g b n k i env s = forI src b k i env s
  | 0, i, env, s => rfl
  | k + 1, i, env, s => by
    have ih := fun env s => forL_I b src g n hs k (i + 1) env s
    unfold forL forI
    rw [hs]
    cases e0 : liveAt n i s with
    | none => rfl
    | some o =>
      cases o with
      | none => rfl
      | some x =>
        simp only [Option.map_some]
        cases e : b (g i x) env s with
        | err => rfl
        | exc c l env' s' => rfl
        | ok f env' s' =>
          cases f with
          | nx => exact ih env' s'
          | ct => exact ih env' s'
          | bk => rfl
          | rt w => rfl
theorem forA_I (b : W → Env → ST → RS) (fuel : Nat) (src : Src) (env : Env) (s : ST) : ∃ m, forA b fuel src env s = forI src b m 0 env s := by
  cases src with
  | row xs => exact ⟨_, forS_I b xs xs 0 env s rfl⟩
  | live n => exact ⟨fuel, forL_I b _ _ n (fun i s => by simp only [srcAt]; cases liveAt n i s with | none => rfl | some o => cases o <;> rfl) fuel 0 env s⟩
  | liveE n => exact ⟨fuel, forL_I b _ _ n (fun i s => rfl) fuel 0 env s⟩
def stepS (P : Pg) (call : Nat → List W → M W) (t : T) (b : S) : W → Env → ST → RS := fun w env s => match asg t w env with
  | some env' => evS P call b env' s
  | none => .err
theorem ss_for {t : T} {it : E} {b : S} {tg iter : Expr} {sb : List Stmt} {pos : Pos} (hp : PassesOwn (model X.prog X.w) X.A X.env X.xe) (hc : X.calm = true) (hi : PI X tg iter (tI C P call Wx it)) (hg : PG X tg (tG C t)) (hb : PSs X sb (tS C P call Wx b))
    (hs : ∀ x, foldedSetIterable iter X.env x = pure x) : PS X (.For tg iter sb [] pos) (tS C P call Wx (.forr t it b)) := by
  refine (ps_for hp hc hi hg hb hs).imp fun D σ H ⟨ρ, s, env, eR, S, h⟩ => ?_
  simp only [evS] at h
  refine ⟨ρ, s, env, eR, S, ResS.eS (Rl := LkA C) eR h fun ρ1 H1 s1 src J g1 eR1 S1 lk h1 => ?_⟩
  have h1 : ResS C ρ1 H1 (forA (stepS P call t b) P.fuel src env s1) D Wx := h1
  obtain ⟨m0, e0⟩ := forA_I (stepS P call t b) P.fuel src env s1
  rw [e0] at h1
  refine ⟨fun i m σ H => ∃ ρ s env, Gr ρ1 H1 ρ H ∧ EnvR C ρ H env σ ∧ SR C ρ H s ∧ ResS C ρ H (forI src (stepS P call t b) m i env s) D Wx, ⟨m0, ρ1, s1, env, Gr.refl, eR1, S1, h1⟩, ?_⟩
  rintro i m σ H ⟨ρ2, s2, env2, g2, eR2, S2, h2⟩
  cases m with
  | zero => exact h2.elim
  | succ m =>
    simp only [forI] at h2
    cases esrc : srcAt src i s2 with
    | none => rw [esrc] at h2; exact h2.elim
    | some o =>
      rw [esrc] at h2
      have lki := lk.1 ρ2 H s2 i o g2 S2 esrc
      cases o with
      | none => exact .inl ⟨lki, h2 ρ2 H σ Gr.refl S2 eR2⟩
      | some x =>
        obtain ⟨jgo, jyld⟩ := lki
        refine .inr ⟨jgo, fun σ' H' => ∃ ρ s env, Gr ρ1 H1 ρ H' ∧ EnvR C ρ H' env σ' ∧ SR C ρ H' s ∧ ResS C ρ H' (forI src (stepS P call t b) m (i + 1) env s) D Wx, fun σ' H' q => ⟨m, Nat.lt_succ_self m, q⟩, fun v H3 hy => ?_⟩
        obtain ⟨g3, S3, rx⟩ := jyld v H3 hy
        dsimp only at h2
        unfold stepS at h2
        cases ea : asg t x env2 with
        | none => rw [ea] at h2; exact h2.elim
        | some env' =>
          rw [ea] at h2
          dsimp only at h2
          refine ⟨ρ2, s2, env2, x, env', eR2.mono g3, S3, rx, ea, fun σ' eR' _ => ⟨ρ2, s2, env', eR', S3, ?_⟩⟩
          have gA := g2.trans g3
          have h3 := h2.mono g3
          cases e : evS P call b env' s2 with
          | err => rw [e] at h3; exact h3
          | exc c l env' s' => rw [e] at h3; exact h3
          | ok f env' s' =>
            rw [e] at h3
            cases f with
            | nx => exact fun ρ4 H4 σ4 g4 S4 eR4 => ⟨ρ4, s', env', gA.trans g4, eR4, S4, h3.mono g4⟩
            | ct => exact fun ρ4 H4 σ4 g4 S4 eR4 => ⟨ρ4, s', env', gA.trans g4, eR4, S4, h3.mono g4⟩
            | bk => exact h3
            | rt w => exact h3
/-! raise -/
/-- an own class of errors without arguments kept -/
structure Er (X : Cx) (C : Cn) (xs : List Str) : Prop where
  at_ : ∀ (n : Nat) (x : Str), xs[n]? = some x → ∃ (a : Addr) (B newId initId : String) (bmB : List Value), C.ca n = some a ∧ X.mg x = some (.ref a) ∧ ExcBaseFacts B newId initId bmB ∧ PySem.W.excIn X.K a bmB newId = true ∧ PySem.W.keepIn X.K (.ref a) = true ∧
    PySem.W.subIn X.K (.ref a) (.type "BaseException") = some true ∧ PySem.W.typeIn X.K (.ref a) = some (.type "type")
theorem ss_raise {xs : List Str} {n : Nat} {x m : Str} {j : Nat} {p p2 pos pos' : Pos} (ct : Ct X C P Nn d Wx) (er : Er X C xs) (hn : xs[n]? = some x) (hg : Gl X x) (hdb : (x == ("__debug__" : Str)) = false) :
    PS X (.Raise (some (.Call (.Name x p) [.Constant (.str m) j p2] [] pos)) none pos') (tS C P call Wx (.raise n .nil)) := by
  obtain ⟨a, B, newId, initId, bmB, e1, e2, F, q, k1, k2, k3⟩ := er.at_ n x hn
  refine (ps_raise ct.calm ct.tk (pmk_own F q e2 k1 (raises_own k2 k3) hg hdb)).imp fun D σ H ⟨ρ, s, env, eR, S, h⟩ => ?_
  simp only [evS, evA] at h
  exact h ρ H σ a none Gr.refl S eR e1
end
end G

set_option Elab.async false
set_option linter.all false
set_option autoImplicit false
set_option maxRecDepth 100000
set_option maxHeartbeats 4000000
/-! GC: the checker of statements, and that what it lets pass is sound. -/
namespace G
open PySem PySem.Spec PyProof.Rows L2
def isComp : Expr → Bool
  | .ListComp .. | .SetComp .. | .DictComp .. => true
  | _ => false
def isStar : Expr → Bool
  | .Starred .. => true
  | _ => false
def swName (sc : Scope) (l : Nat) : Expr → Option Str
  | .Name id pos => if sc.names.lookup id == some .local && pos.line == l then some id else none
  | _ => none
/-- the stores are not exchanged -/
def noSw (sc : Scope) (tg v : Expr) : Bool :=
  match tg, v with
  | .Tuple ts _ _, .Tuple vs _ _ => !(ts.length == 2 || ts.length == 3) || vs.length != ts.length || vs.any isStar || (ts.filterMap (swName sc ((ts.head?.map (·.pos.line)).getD 0))).length != ts.length || vs.all (foldedForSure 8)
  | .List .., .Tuple .. => false
  | _, _ => true
theorem isStar_eq : (fun (x : Expr) => match x with | .Starred .. => true | _ => false) = isStar := by
  funext e
  cases e <;> rfl
theorem swName_eq (env : PySem.Env) (l : Nat) : (fun (x : Expr) => match x with | .Name id pos => if env.kindOf id == some .local && pos.line == l then some id else none | _ => none) = swName env.scope l := by
  funext e
  cases e <;> rfl
theorem noSw_ok {tg v : Expr} {env : PySem.Env} (h : noSw env.scope tg v = true) : swappedStores [tg] v env = pure none := by
  unfold swappedStores
  unfold noSw at h
  split at h
  · rename_i ts k p vs k2 p2
    dsimp only
    by_cases h1 : (!(ts.length == 2 || ts.length == 3) || vs.length != ts.length || env.blockKind != .function) = true
    · rw [if_pos h1]
    · rw [if_neg h1]
      simp only [Bool.or_eq_true, not_or] at h1
      by_cases h2 : (vs.any isStar) = true
      · rw [if_pos (by first | exact h2 | (rw [← isStar_eq] at h2; exact h2))]
      · rw [if_neg (by first | exact h2 | (rw [← isStar_eq] at h2; exact h2))]
        by_cases h3 : ((ts.filterMap (swName env.scope ((ts.head?.map (·.pos.line)).getD 0))).length != ts.length) = true
        · rw [if_pos]
          rw [← swName_eq] at h3
          simp only [Bool.or_eq_true]
          exact .inl h3
        · simp only [Bool.or_eq_true] at h
          rcases h with (((h | h) | h) | h) | h
          · exact (h1.1.1 h).elim
          · exact (h1.1.2 h).elim
          · exact (h2 h).elim
          · exact (h3 h).elim
          · rw [if_pos h]
            split <;> rfl
  · cases h
  · rename_i n1 n2
    split
    · rename_i ts vs e
      exfalso
      revert e
      cases tg <;> cases v <;> intro e <;> first | (exact n1 _ _ _ _ _ _ rfl rfl) | (exact n2 _ _ _ _ _ rfl rfl) | cases e
    · rfl
theorem sw2_ok {x y : Str} {a b : Expr} {px py pt pt2 : Pos} {kt k2} {env : PySem.Env} (hk : env.scope.kind = .function) (hx : env.scope.names.lookup x = some .local) (hy : env.scope.names.lookup y = some .local) (hl : (py.line == px.line) = true) (hxy : (x == y) = false)
    (ha : notStar a = true) (hb : notStar b = true) (hf : [a, b].all (foldedForSure 8) = false) (hc : [a, b].all (constantsAlone 8) = false) :
    swappedStores [.Tuple [.Name x px, .Name y py] kt pt] (.Tuple [a, b] k2 pt2) env = pure (some [x, y]) := by
  have kx : env.kindOf x = some .local := hx
  have ky : env.kindOf y = some .local := hy
  have hb' : env.blockKind = .function := by unfold PySem.Env.blockKind; rw [hk]; rfl
  have st : ([a, b].any fun | .Starred .. => true | _ => false) = false := by
    cases a <;> cases b <;> first | rfl | (simp [notStar] at ha; done) | (simp [notStar] at hb; done)
  unfold swappedStores
  simp only [hb', st, hf, hc, List.filterMap, kx, ky, Expr.pos, List.head?, Option.map, Option.getD, hl, beq_self_eq_true, Bool.and_self, Bool.and_true, if_true, List.length, List.eraseDups, List.eraseDupsBy, List.eraseDupsBy.loop, List.any, hxy]
  rw [show (y == x) = false from by rw [Bool.eq_false_iff] at hxy ⊢; exact fun q => hxy (by simpa using (eq_of_beq q).symm)]
  refine (if_neg (by decide)).trans ?_
  refine (if_neg (by rw [Bool.not_eq_true]; exact st)).trans ?_
  refine (if_neg ?_).trans ?_
  · rw [Bool.not_eq_true]; rfl
  · rfl
theorem sw3_ok {x y z : Str} {a b c : Expr} {px py pz pt pt2 : Pos} {kt k2} {env : PySem.Env} (hk : env.scope.kind = .function) (hx : env.scope.names.lookup x = some .local) (hy : env.scope.names.lookup y = some .local) (hz : env.scope.names.lookup z = some .local) (hl : (py.line == px.line) = true) (hl2 : (pz.line == px.line) = true)
    (hyx : (y == x) = false) (hzx : (z == x) = false) (hzy : (z == y) = false)
    (ha : notStar a = true) (hb : notStar b = true) (hcc : notStar c = true) (hf : [a, b, c].all (foldedForSure 8) = false) (hc : [a, b, c].all (constantsAlone 8) = false) :
    swappedStores [.Tuple [.Name x px, .Name y py, .Name z pz] kt pt] (.Tuple [a, b, c] k2 pt2) env = pure (some [x, y, z]) := by
  have kx : env.kindOf x = some .local := hx
  have ky : env.kindOf y = some .local := hy
  have kz : env.kindOf z = some .local := hz
  have hb' : env.blockKind = .function := by unfold PySem.Env.blockKind; rw [hk]; rfl
  have st : ([a, b, c].any fun | .Starred .. => true | _ => false) = false := by
    have e1 : ([a, b, c].any isStar) = false := by
      have q : ∀ e, notStar e = true → isStar e = false := fun e h => by cases e <;> first | rfl | (simp [notStar] at h)
      simp only [List.any, q a ha, q b hb, q c hcc, Bool.or_self]
    rw [← isStar_eq] at e1
    exact e1
  unfold swappedStores
  simp only [hb', st, hf, hc, List.filterMap, kx, ky, kz, Expr.pos, List.head?, Option.map, Option.getD, hl, hl2, beq_self_eq_true, Bool.and_self, Bool.and_true, if_true, List.length, List.eraseDups, List.eraseDupsBy, List.eraseDupsBy.loop, List.any, hyx, hzx, hzy]
  refine (if_neg (by decide)).trans ?_
  refine (if_neg (by rw [Bool.not_eq_true]; exact st)).trans ?_
  refine (if_neg ?_).trans ?_
  · rw [Bool.not_eq_true]; rfl
  · rfl
theorem swF {e : Expr} {t : Option Expr} {l : Nat} {env : PySem.Env} (h : isComp e = false) : swapsWith e t l env = pure false := by
  cases e <;> first | rfl | (simp [isComp] at h)
/-! ### the checker -/
def isNil : E → Bool
  | .nil => true
  | _ => false
theorem nil_of {e : E} (h : isNil e = true) : e = .nil := by
  cases e <;> first | rfl | cases h
def ckTop : T → Expr → Expr → Scope → Bool
  | .v _, .Name _ _, _, _ => true
  | _, tg, v, sc => !isComp v
def neS (x y : Str) : Bool := !(x == y)
section
variable (Nn : Nm) (xs : List Str) (N : List Str) (sc : Scope)
mutual
def ck1 : S → Stmt → Bool
  | .asg t e, st => match st with
    | .Assign [tg] v _ => ckT sc true N t tg && ckE Nn N sc e v && noSw sc tg v && ckTop t tg v sc
    | _ => false
  | .par2 i j a b, st => match st with
    | .Assign [.Tuple [.Name x px, .Name y py] _ _] (.Tuple [ea, eb] _ _) _ => N[i]? == some x && N[j]? == some y && !(i == j) && lookIs sc x .local && lookIs sc y .local && py.line == px.line && !(x == y) && notStar ea && notStar eb &&
        !([ea, eb].all (foldedForSure 8)) && !([ea, eb].all (constantsAlone 8)) && ckE Nn N sc a ea && ckE Nn N sc b eb
    | _ => false
  | .par3 i j l a b c, st => match st with
    | .Assign [.Tuple [.Name x px, .Name y py, .Name z pz] _ _] (.Tuple [ea, eb, ec] _ _) _ => N[i]? == some x && N[j]? == some y && N[l]? == some z && !(i == j) && !(i == l) && !(j == l) && lookIs sc x .local && lookIs sc y .local && lookIs sc z .local && py.line == px.line && pz.line == px.line &&
        !(y == x) && !(z == x) && !(z == y) && notStar ea && notStar eb && notStar ec && !([ea, eb, ec].all (foldedForSure 8)) && !([ea, eb, ec].all (constantsAlone 8)) && ckE Nn N sc a ea && ckE Nn N sc b eb && ckE Nn N sc c ec
    | _ => false
  | .seti o i e, st => match st with
    | .Assign [.Subscript eo ei _] v _ => ckE Nn N sc o eo && ckE Nn N sc i ei && ckE Nn N sc e v && plainIx ei && !isComp v
    | _ => false
  | .expr e, st => isNil e || (match st with
    | .Expr v _ => ckE Nn N sc e v && !isComp v
    | _ => false)
  | .rt e, st => match st with
    | .Return (some v) _ => ckE Nn N sc e v
    | _ => false
  | .rtn, st => match st with
    | .Return none _ => true
    | _ => false
  | .ife c a b, st => match st with
    | .If t p q _ => ckE Nn N sc c t && ptOk t && ckS a p && ckS b q
    | _ => false
  | .whl c b, st => match st with
    | .While t p [] _ => ckE Nn N sc c t && ptOk t && ckS b p
    | _ => false
  | .forr t it b, st => match st with
    | .For tg iter p [] _ => ckT sc true N t tg && ckI Nn N sc it tg iter && ckS b p && notSet iter
    | _ => false
  | .brk, st => match st with
    | .Break _ => true
    | _ => false
  | .cnt, st => match st with
    | .Continue _ => true
    | _ => false
  | .pass, st => match st with
    | .Pass _ => true
    | _ => false
  | .raise n l, st => match st with
    | .Raise (some (.Call (.Name x _) [.Constant (.str _) _ _] [] _)) none _ => xs[n]? == some x && lookIs sc x .globalImplicit && okName x && (match l with | .nil => true | _ => false)
    | _ => false
  | _, _ => false
termination_by structural e => e
def ckS : S → List Stmt → Bool
  | .nil, l => match l with
    | [] => true
    | _ => false
  | .seq a b, l => match l with
    | st :: rest => ck1 a st && ckS b rest
    | _ => false
  | _, _ => false
termination_by structural e => e
end
end
section
variable {X : Cx} {C : Cn} {P : Pg} {Nn : Nm} {d : Nat} {Wx : WX} {xs : List Str}
theorem top_each {t : T} {tg : Expr} {sc : Scope} {cl : Bool} {N : List Str} {env : PySem.Env} (h : ckT sc cl N t tg = true) : (assignEach [tg] env).map (·.2) = [assign tg env] := by rw [asgEach h]; rfl
/-- a statement that is never reached -/
theorem ps_bad {st : Stmt} : PS X st (tS C P (callD P d) Wx (.expr .nil)) := ⟨fun _ _ _ _ _ _ q => by
  obtain ⟨ρ, s, env, _, _, h⟩ := q
  exact h.elim⟩
theorem ps_badA {t : T} {st : Stmt} : PS X st (tS C P (callD P d) Wx (.asg t .nil)) := ⟨fun _ _ _ _ _ _ q => by
  obtain ⟨ρ, s, env, _, _, h⟩ := q
  exact h.elim⟩
/-- name = [..] -/
theorem snd_setLc {i : Nat} {t : T} {it ifs el : E} {own : List Nat} {y : Str} {py spos cpos : Pos} {elt : Expr} {gs : List Comprehension} {scope : Scope} (ct : Ct X C P Nn d Wx) (Q : Sc X X.env.scope true) (hk : X.env.scope.kind = .function)
    (hT : ckT X.env.scope true X.N (.v i) (.Name y py) = true) (h : ckE Nn X.N X.env.scope (.lc t it ifs el own) (.ListComp elt gs scope cpos) = true) :
    PS X (.Assign [.Name y py] (.ListComp elt gs scope cpos) spos) (tS C P (callD P d) Wx (.asg (.v i) (.lc t it ifs el own))) := by
  have hb : X.env.blockKind = .function := by unfold PySem.Env.blockKind; rw [hk]; rfl
  by_cases hsw : (X.env.kindOf y == some .local && py.line == cpos.line && !(scope.names.any fun (n, k) => n == y && (k == .local || k == .cell))) = true
  · have hsw' : swapsWith (.ListComp elt gs scope cpos) (some (.Name y py)) spos.line X.env = pure true := by
      unfold swapsWith
      simp only [hb, Expr.pos, beq_self_eq_true, Bool.true_and]
      rw [hsw]
    simp only [Bool.and_eq_true, beq_iff_eq] at hsw
    have hyl : X.env.scope.names.lookup y = some .local := hsw.1.1
    simp only [ckT, Bool.and_eq_true, beq_iff_eq] at hT
    simp only [ckE] at h
    split at h
    · rename_i q
      cases q
      simp only [Bool.and_eq_true] at h
      obtain ⟨⟨⟨⟨⟨⟨h1, h2⟩, h3⟩, h4⟩, h5⟩, h6⟩, h7⟩ := h
      have ho : ∀ i ∈ tgV t, i ∈ own := fun i hi => by simpa using List.all_eq_true.mp h2 i hi
      have eo : (ownOf X.N own).map (·.2) = own := by unfold ownOf; rw [List.map_map]; exact List.map_id _
      refine (ps_setLc ct.calm ct.nd hT.1 hyl hsw' (sndI it _ _ _ _ X C Wx _ _ ct Q h4) (blk_ok Q h1)
        (fun s H D c fp => PG.ex fun xi => s_tg ((ct.blk xi s H _ _ fp).hK) ct.nd ct.calm (Sc.blk s H D c fp) t _ h3)
        (fun s H D c fp => PTs.ex fun xi => sndB ifs _ _ _ _ (C.at xi) WF _ true (ct.blk xi s H _ _ fp) (Sc.blk s H D c fp) h5)
        (fun s H D c fp => PE.ex fun xi => (sndE el _ _ _ _ (C.at xi) WF _ true (ct.blk xi s H _ _ fp) (Sc.blk s H D c fp) h6).1) (fold_no h7)).imp fun D σ H q => ?_
      have q := i_asgL q
      rw [eo]
      exact i_lc (Q := fun x H1 => gName i x σ H1 D.nx) ho q
    · cases h
  · have hsw' : swapsWith (.ListComp elt gs scope cpos) (some (.Name y py)) spos.line X.env = pure false := by
      unfold swapsWith
      simp only [hb, Expr.pos, beq_self_eq_true, Bool.true_and]
      rw [Bool.not_eq_true] at hsw
      rw [hsw]
    exact ss_asg (sndE _ _ _ _ X C Wx _ _ ct Q h).1 (s_tg ct.hK ct.nd ct.calm Q _ _ hT) hsw' rfl rfl
mutual
theorem snd1 (hk : X.env.scope.kind = .function) (er : Er X C xs) (hp : PassesOwn (model X.prog X.w) X.A X.env X.xe) (ct : Ct X C P Nn d Wx) (Q : Sc X X.env.scope true) : ∀ (ir : S) (st : Stmt), ck1 Nn xs X.N X.env.scope ir st = true → PS X st (tS C P (callD P d) Wx ir)
  | .asg t e, st, h => by
    simp only [ck1] at h
    split at h
    · rename_i tg v pos
      simp only [Bool.and_eq_true] at h
      by_cases hn : isNil e = true
      · rw [nil_of hn]; exact ps_badA
      obtain ⟨⟨⟨h1, h2⟩, h3⟩, h4⟩ := h
      by_cases hc : isComp v = true
      · cases t with
        | v i =>
          cases tg <;> try (simp [ckT] at h1; done)
          cases v <;> try (simp [isComp] at hc; done)
          · cases e <;> try first | (simp [ckE] at h2; done) | (simp [isNil] at hn; done)
            · rename_i w
              cases w <;> simp [ckE, ckK] at h2
            · exact snd_setLc ct Q hk h1 h2
          · cases e <;> try first | (simp [ckE] at h2; done) | (simp [isNil] at hn; done)
            rename_i w
            cases w <;> simp [ckE, ckK] at h2
          · cases e <;> try first | (simp [ckE] at h2; done) | (simp [isNil] at hn; done)
            rename_i w
            cases w <;> simp [ckE, ckK] at h2
        | nil => simp [ckTop, hc] at h4
        | cons a b => simp [ckTop, hc] at h4
      · have hc : isComp v = false := by simpa using hc
        exact ss_asg (sndE e v _ _ X C Wx _ _ ct Q h2).1 (s_tg ct.hK ct.nd ct.calm Q t tg h1) (swF hc) (noSw_ok h3) (top_each h1)
    · cases h
  | .par2 i j a b, st, h => by
    simp only [ck1] at h
    split at h
    · simp only [Bool.and_eq_true, beq_iff_eq, lookIs, Bool.not_eq_true', bne_iff_ne] at h
      obtain ⟨⟨⟨⟨⟨⟨⟨⟨⟨⟨⟨⟨h1, h2⟩, h3⟩, h4⟩, h5⟩, h6⟩, h7⟩, h8⟩, h9⟩, h10⟩, h11⟩, h12⟩, h13⟩ := h
      have A := (sndE a _ _ _ X C Wx _ _ ct Q h12).1
      have B := (sndE b _ _ _ X C Wx _ _ ct Q h13).1
      exact ss_par2 ct h1 h2 (by simpa using h3) h4 h5 (s_cons A (s_cons B s_nil (star_cons h9)) (star_cons h8)) (sw2_ok hk h4 h5 (by simpa using h6) h7 h8 h9 h10 h11)
    · cases h
  | .par3 i j l a b c, st, h => by
    simp only [ck1] at h
    split at h
    · simp only [Bool.and_eq_true, beq_iff_eq, lookIs, Bool.not_eq_true', bne_iff_ne] at h
      obtain ⟨⟨⟨⟨⟨⟨⟨⟨⟨⟨⟨⟨⟨⟨⟨⟨⟨⟨⟨⟨⟨h1, h2⟩, h3⟩, h4⟩, h5⟩, h6⟩, h7⟩, h8⟩, h9⟩, h10⟩, h11⟩, h12⟩, h13⟩, h14⟩, h15⟩, h16⟩, h17⟩, h18⟩, h19⟩, h20⟩, h21⟩, h22⟩ := h
      have A := (sndE a _ _ _ X C Wx _ _ ct Q h20).1
      have B := (sndE b _ _ _ X C Wx _ _ ct Q h21).1
      have D := (sndE c _ _ _ X C Wx _ _ ct Q h22).1
      exact ss_par3 ct h1 h2 h3 (by simpa using h4) (by simpa using h5) (by simpa using h6) h7 h8 h9 (s_cons A (s_cons B (s_cons D s_nil (star_cons h17)) (star_cons h16)) (star_cons h15)) (sw3_ok hk h7 h8 h9 (by simpa using h10) (by simpa using h11) h12 h13 h14 h15 h16 h17 h18 h19)
    · cases h
  | .seti o i e, st, h => by
    simp only [ck1] at h
    split at h
    · simp only [Bool.and_eq_true, Bool.not_eq_true'] at h
      obtain ⟨⟨⟨⟨h1, h2⟩, h3⟩, h4⟩, h5⟩ := h
      exact ss_seti (sndE o _ _ _ X C Wx _ _ ct Q h1).1 (sndE i _ _ _ X C Wx _ _ ct Q h2).1 (sndE e _ _ _ X C Wx _ _ ct Q h3).1 h4 (by unfold swapsWithSole; exact swF h5) rfl
    · cases h
  | .expr e, st, h => by
    simp only [ck1] at h
    by_cases hn : isNil e = true
    · rw [nil_of hn]; exact ps_bad
    have hn : isNil e = false := by simpa using hn
    rw [hn, Bool.false_or] at h
    split at h
    · simp only [Bool.and_eq_true, Bool.not_eq_true'] at h
      exact ss_expr (sndE e _ _ _ X C Wx _ _ ct Q h.1).1 (swF h.2)
    · cases h
  | .rt e, st, h => by
    simp only [ck1] at h
    split at h
    · exact ss_rt (sndE e _ _ _ X C Wx _ _ ct Q h).1
    · cases h
  | .rtn, st, h => by
    simp only [ck1] at h
    split at h
    · exact ss_rtn
    · cases h
  | .ife c a b, st, h => by
    simp only [ck1] at h
    split at h
    · simp only [Bool.and_eq_true] at h
      obtain ⟨⟨⟨h1, h2⟩, h3⟩, h4⟩ := h
      exact ss_ife ((sndE c _ _ _ X C Wx _ _ ct Q h1).2.1 h2) (sndS hk er hp ct Q a _ h3) (sndS hk er hp ct Q b _ h4)
    · cases h
  | .whl c b, st, h => by
    simp only [ck1] at h
    split at h
    · simp only [Bool.and_eq_true] at h
      obtain ⟨⟨h1, h2⟩, h3⟩ := h
      exact ss_whl hp ((sndE c _ _ _ X C Wx _ _ ct Q h1).2.1 h2) (sndS hk er hp ct Q b _ h3)
    · cases h
  | .forr t it b, st, h => by
    simp only [ck1] at h
    split at h
    · simp only [Bool.and_eq_true] at h
      obtain ⟨⟨⟨h1, h2⟩, h3⟩, h4⟩ := h
      exact ss_for hp ct.calm (sndI it _ _ _ _ X C Wx _ _ ct Q h2) (s_tg ct.hK ct.nd ct.calm Q t _ h1) (sndS hk er hp ct Q b _ h3) (fold_no h4)
    · cases h
  | .brk, st, h => by
    simp only [ck1] at h
    split at h
    · exact ss_brk
    · cases h
  | .cnt, st, h => by
    simp only [ck1] at h
    split at h
    · exact ss_cnt
    · cases h
  | .pass, st, h => by
    simp only [ck1] at h
    split at h
    · exact ss_pass
    · cases h
  | .raise n l, st, h => by
    simp only [ck1] at h
    split at h
    · simp only [Bool.and_eq_true, beq_iff_eq] at h
      obtain ⟨⟨⟨h1, h2⟩, h3⟩, h4⟩ := h
      split at h4
      · exact ss_raise ct er h1 (gl_of Q h2) (okName_of h3).1
      · cases h4
    · cases h
  | .nil, st, h => by simp [ck1] at h
  | .seq _ _, st, h => by simp [ck1] at h
theorem sndS (hk : X.env.scope.kind = .function) (er : Er X C xs) (hp : PassesOwn (model X.prog X.w) X.A X.env X.xe) (ct : Ct X C P Nn d Wx) (Q : Sc X X.env.scope true) : ∀ (ir : S) (st : List Stmt), ckS Nn xs X.N X.env.scope ir st = true → PSs X st (tS C P (callD P d) Wx ir)
  | .nil, st, h => by
    simp only [ckS] at h
    split at h
    · exact ss_nil
    · cases h
  | .seq a b, st, h => by
    simp only [ckS] at h
    split at h
    · simp only [Bool.and_eq_true] at h
      exact ss_seq (snd1 hk er hp ct Q a _ h.1) (sndS hk er hp ct Q b _ h.2)
    · cases h
  | .asg .., st, h | .par2 .., st, h | .par3 .., st, h | .seti .., st, h | .expr _, st, h | .rt _, st, h | .rtn, st, h | .ife .., st, h | .whl .., st, h | .forr .., st, h | .brk, st, h | .cnt, st, h | .pass, st, h | .raise .., st, h => by simp [ckS] at h
end
end
end G

set_option Elab.async false
set_option linter.all false
set_option autoImplicit false
set_option maxRecDepth 100000
set_option maxHeartbeats 4000000
/-! GD: defs: each keeps its promise, however deep. -/
namespace G
open PySem PySem.Spec PyProof.Rows L2
/-- a def of the text, its form and its address; cs: code objects and their tables -/
structure DData (K : PySem.W.Frag) (mg : Str → Option Value) (Nn : Nm) (xs : List Str) (P : Pg) (C : Cn) (cs : List (Addr × Addr)) (n : Nat) (x : Str) (f : Addr) (fd : FuncData) (ps : List Str) : Prop where
  ex : ∃ (st : Stmt) (N : List Str) (df : Def) (oc : Value) (od : Option Addr) (kV doc pm : Value) (an : Option Addr) (cdv ct : Value) (osl : Array (Option Value)), fd = PySem.W.fnOf x x (defArgs st) (defBody st) (defScope st) .none kV doc pm an cdv ct ∧ C.fa n = some f ∧ mg x = some (.ref f) ∧ PySem.W.keepIn K (.ref f) = true ∧
    K.lookup f = some ⟨oc, od, .func fd, osl⟩ ∧ PySem.W.codeIn K cdv x = true ∧ Binds K fd ps [] ∧
    FnScope N ps (defScope st) ∧ P.defs[n]? = some df ∧ df.np = ps.length ∧ df.nl = N.length ∧
    (ckS Nn.no xs N (defScope st) df.body (defBody st) = true ∨ (ckS Nn xs N (defScope st) df.body (defBody st) = true ∧
      ∃ c Pt, cdv = .ref c ∧ (c, Pt) ∈ cs ∧ (Pt, (x ++ ".<locals>.") ++ "<lambda>") ∈ C.T ∧ ∀ p ∈ C.T, p.1 = Pt → p.2 = (x ++ ".<locals>.") ++ "<lambda>"))
structure DefOk (K : PySem.W.Frag) (mg : Str → Option Value) (Nn : Nm) (xs : List Str) (P : Pg) (C : Cn) (cs : List (Addr × Addr)) (n : Nat) (x : Str) : Prop where
  ex : ∃ f fd ps, DData K mg Nn xs P C cs n x f fd ps
structure CnOk (mg : Str → Option Value) (P : Pg) (C : Cn) (n : Nat) (x : Str) : Prop where
  ex : ∃ u v w, mg x = some u ∧ RelV v u ∧ P.consts[n]? = some w ∧ ∀ xi ρ H, Rep { C with xi := xi } ρ H w v
structure ErOk (K : PySem.W.Frag) (mg : Str → Option Value) (C : Cn) (n : Nat) (x : Str) : Prop where
  ex : ∃ (a : Addr) (B newId initId : String) (bmB : List Value), C.ca n = some a ∧ mg x = some (.ref a) ∧ ExcBaseFacts B newId initId bmB ∧ PySem.W.excIn K a bmB newId = true ∧ PySem.W.keepIn K (.ref a) = true ∧
    PySem.W.subIn K (.ref a) (.type "BaseException") = some true ∧ PySem.W.typeIn K (.ref a) = some (.type "type")
/-- what the proof needs of a program -/
structure PgOk (K : PySem.W.Frag) (mg : Str → Option Value) (Nn : Nm) (xs : List Str) (P : Pg) (C : Cn) (cs : List (Addr × Addr)) : Prop where
  hK : K = C.K
  blt : ∀ x ∈ bnames, mg x = none
  df : ∀ (n : Nat) (x : Str), Nn.fns[n]? = some x → DefOk K mg Nn xs P C cs n x
  cn : ∀ (n : Nat) (x : Str), Nn.cns[n]? = some x → CnOk mg P C n x
  er : ∀ (n : Nat) (x : Str), xs[n]? = some x → ErOk K mg C n x
  tl : ∀ (n : Nat) (x : Str), Nn.tl[n]? = some x → ∃ row, P.told[n]? = some row ∧ TellK K mg C x row
section
variable {Pr : Program} {w : World} {K : PySem.W.Frag} {mg : Str → Option Value} {base : Heap} {Nn : Nm} {xs : List Str} {P : Pg} {C : Cn}
theorem startEnv {N : List Str} {args : List W} {vs : List V} {ρ : List Addr} {H : Hp} (r : Reps C ρ H args vs) (hl : args.length ≤ N.length) : EnvR C ρ H (args.map some ++ List.replicate (N.length - args.length) none) (L2.start N vs) := by
  have hv := r.length
  unfold L2.start
  refine ⟨by simp [← hv], fun i u h => ?_⟩
  by_cases hi : i < args.length
  · rw [List.getElem?_append_left (by simpa using hi), List.getElem?_map] at h
    rw [List.getElem?_append_left (by rw [List.length_map, ← hv]; exact hi), List.getElem?_map]
    cases e : args[i]? with
    | none => rw [e] at h; cases h
    | some a =>
      rw [e] at h
      cases h
      obtain ⟨v, e1, r1⟩ := r.get e
      exact ⟨v, by rw [e1]; rfl, r1⟩
  · rw [List.getElem?_append_right (by simpa using hi), List.getElem?_replicate] at h
    split at h <;> cases h
theorem dat_ok {cs : List (Addr × Addr)} (ok : PgOk K mg Nn xs P C cs) (TB : ∀ p ∈ cs, LamX.TabB base mg p.1 p.2) : ∀ (d k : Nat), k ≤ d → ∀ (n : Nat) (x : Str), Nn.fns[n]? = some x → ∀ f fd ps, DData K mg Nn xs P C cs n x f fd ps → FnOk Pr w K mg base (L2.CX Pr w) k f fd ps (spD C P k n)
  | 0, k, hk, n, x, hn, f, fd, ps, dd => by
    obtain rfl : k = 0 := by omega
    obtain ⟨st, N, df, oc, od, kV, doc, pm, an, cdv, ctv, osl, rfl, e1, e2, kp, lk, hcd, b, S, e3, h1, h2, ck⟩ := dd.ex
    have no : ∀ vs H Q E, ¬ spD C P 0 n vs H Q E := fun vs H Q E ⟨xi, ρ, s, args, _, _, h⟩ => h.elim
    exact ⟨fun vs H Q E h => (no _ _ _ _ h).elim, fun A outer s H args us vs Q E _ _ _ _ h => (no _ _ _ _ h).elim⟩
  | d + 1, k, hk, n, x, hn, f, fd, ps, dd => by
    have ih0 := dat_ok ok TB d
    have ih : ∀ (k : Nat), k ≤ d → ∀ (n : Nat) (x : Str), Nn.fns[n]? = some x → ∃ f fd ps, C.fa n = some f ∧ mg x = some (.ref f) ∧ PySem.W.keepIn K (.ref f) = true ∧ Binds K fd ps [] ∧ FnOk Pr w K mg base (L2.CX Pr w) k f fd ps (spD C P k n) := fun k hk n x hn => by
      obtain ⟨f, fd, ps, dd⟩ := (ok.df n x hn).ex
      have F := ih0 k hk n x hn f fd ps dd
      obtain ⟨st, N, df, oc, od, kV, doc, pm, an, cdv, ctv, osl, e0, e1, e2, kp, lk, hcd, b, S, e3, h1, h2, ck⟩ := dd.ex
      exact ⟨f, fd, ps, e1, e2, kp, b, F⟩
    by_cases hkd : k ≤ d
    · exact ih0 k hkd n x hn f fd ps dd
    obtain rfl : k = d + 1 := by omega
    obtain ⟨st, N, df, oc, od, kV, doc, pm, an, cdv, ctv, osl, rfl, e1, e2, kp, lk, hcd, b, S, e3, h1, h2, ck⟩ := dd.ex
    have hpl : ps.length ≤ N.length := by have := congrArg List.length S.pre; rw [List.length_take] at this; omega
    -- the body is run
    have dn : ∀ {vs H Q E}, spD C P (d + 1) n vs H Q E → ∃ xi ρ s args, SR { C with xi := xi } ρ H s ∧ Reps { C with xi := xi } ρ H args vs ∧ args.length = ps.length ∧
        ResS { C with xi := xi } ρ H (evS P (callD P d) df.body (args.map some ++ List.replicate (df.nl - df.np) none) s) { nx := fun _ H' => Q .non H', rt := Q } (fun cls d _ H => E cls d H) := fun {vs H Q E} ⟨xi, ρ, s, args, S, r, h⟩ => by
      simp only [callD, e3] at h
      by_cases hl : args.length = df.np
      · rw [if_pos hl] at h
        refine ⟨xi, ρ, s, args, S, r, hl.trans h1, ?_⟩
        cases e : evS P (callD P d) df.body (args.map some ++ List.replicate (df.nl - df.np) none) s with
        | err => rw [e] at h; exact h
        | exc c l env' s' =>
          rw [e] at h
          exact fun ρ' H' σ' a d g S _ ec => h ρ' H' a d g S ec
        | ok fl env' s' =>
          rw [e] at h
          cases fl with
          | nx => exact fun ρ' H' σ' g S _ => h ρ' H' .non g S Rep.mkN
          | bk => exact h.elim
          | ct => exact h.elim
          | rt w => exact fun ρ' H' v g S r => h ρ' H' v g S r
      · rw [if_neg hl] at h
        exact h.elim
    refine fn_of lk hcd S (fun vs H Q E h => ?_) fun A outer s H vs Q E hr h => ?_
    · obtain ⟨xi, ρ, s, args, _, r, hl, _⟩ := dn h
      rw [← r.length, hl]
    · obtain ⟨xi, ρ, s0, args, S0, r, hl, q⟩ := dn h
      have e5 : args.map some ++ List.replicate (df.nl - df.np) none = args.map some ++ List.replicate (N.length - args.length) none := by rw [h2, h1, hl]
      rw [e5] at q
      have sc : Sc (cxOf (L2.CX Pr w) Pr w K mg base N x (defScope st) f cdv A outer s H E) (defScope st) true := by
        refine ⟨fun x h => h, fun x h => ⟨?_, .inl rfl⟩, fun x h => h, fun x h => h, fun x h => h⟩
        rcases h with h | ⟨_, h⟩
        · exact .inl h
        · exact .inr h
      have er : Er (cxOf (L2.CX Pr w) Pr w K mg base N x (defScope st) f cdv A outer s H E) { C with xi := xi } xs := ⟨fun m y hm => (ok.er m y hm).ex⟩
      have cn : ∀ (m : Nat) (y : Str), Nn.cns[m]? = some y → ∃ u v w, mg y = some u ∧ RelV v u ∧ P.consts[m]? = some w ∧ ∀ xi ρ H, Rep { C with xi := xi } ρ H w v := fun m y hm => by
        obtain ⟨u, v, w, q1, q2, q3, q4⟩ := (ok.cn m y hm).ex
        exact ⟨u, v, w, q1, q2, q3, fun xi ρ H => q4 xi ρ H⟩
      rcases ck with ck | ⟨ck, c, Pt, q1, q2, q3, q4⟩
      · have ct : Ct (cxOf (L2.CX Pr w) Pr w K mg base N x (defScope st) f cdv A outer s H E) { C with xi := xi } P Nn.no d (fun cls d _ H => E cls d H) :=
          ⟨ok.hK, S.nd, rfl, hr, takes_of rfl rfl rfl rfl, ok.blt, fun k hk m y hm => ih k hk m y hm, cn, fun m y hm => by simp [Nm.no] at hm⟩
        exact ⟨tS { C with xi := xi } P (callD P d) (fun cls d _ H => E cls d H) df.body, sndS S.kind er (passes_of rfl) ct sc df.body _ ck, ρ, s0, _, startEnv r (by omega), S0, q⟩
      · have ct : Ct (cxOf (L2.CX Pr w) Pr w K mg base N x (defScope st) f cdv A outer s H E) { C with xi := xi } P Nn d (fun cls d _ H => E cls d H) :=
          ⟨ok.hK, S.nd, rfl, hr, takes_of rfl rfl rfl rfl, ok.blt, fun k hk m y hm => ih k hk m y hm, cn, fun m y hm => by
            obtain ⟨row, er, tk⟩ := ok.tl m y hm
            exact ⟨⟨row, er, ⟨tk.ex⟩⟩, c, Pt, q1, TB _ q2, q3, q4⟩⟩
        exact ⟨tS { C with xi := xi } P (callD P d) (fun cls d _ H => E cls d H) df.body, sndS S.kind er (passes_of rfl) ct sc df.body _ ck, ρ, s0, _, startEnv r (by omega), S0, q⟩
end
end G

set_option Elab.async false
set_option linter.all false
set_option autoImplicit false
set_option maxRecDepth 100000
set_option maxHeartbeats 4000000
/-! GE: from the top's facts to a law's end. -/
namespace G
open PySem PySem.Spec PyProof.Rows L2
/-- a def: its name, its statement, its slots, its parameters, its form, whether it hands lambdas on -/
structure DD where
  x : Str
  st : Stmt
  N : List Str
  ps : List Str
  df : Def
  lam : Bool
/-- a teller: what it tells of each raised class -/
structure TD where
  x : Str
  st : Stmt
  row : List (Option (List Nat))
/-- a program: defs, tellers, constants, raised classes, classes of clauses, what is a kind of what -/
structure Pk where
  ds : List DD
  tls : List TD
  cs : List (Str × W)
  xs : List Str
  hs : List Str
  exms : List (Str × Str × Bool)
  fuel : Nat
  lam : Option Str
def Pk.nn (k : Pk) : Nm := ⟨k.ds.map (·.x), k.cs.map (·.1), k.tls.map (·.x)⟩
def Pk.pg (k : Pk) : Pg := ⟨k.ds.map (·.df), k.cs.map (·.2), k.fuel, k.tls.map (·.row)⟩
def fnD (x : Str) (st : Stmt) : He.FnD := ⟨(x, none), x, x, defArgs st, defBody st, defScope st⟩
def Pk.fn (k : Pk) : List He.FnD := k.ds.map (fun d => fnD d.x d.st) ++ k.tls.map fun d => fnD d.x d.st
def cnF : Str × W → He.Fa
  | (x, .int i) => .int x i
  | (x, .str l) => .str x (strOf l)
  | (x, .tup _) => .glo x
  | (x, _) => .free x
def wB : W → Bool
  | .str l => l.all (· < 0x110000)
  | _ => false
def cnB : W → Bool
  | .int _ => true
  | .str l => l.all (· < 0x110000)
  | .tup l => l.all wB
  | _ => false
/-- a written tuple of texts, as it stands -/
def vStr : Value → Option Str
  | .str y _ => some y
  | _ => none
def wStr : W → Str
  | .str l => strOf l
  | _ => Str.empty
def vStrs : List Value → Option (List Str)
  | [] => some []
  | v :: r => match vStr v with
    | some y => match vStrs r with
      | some ys => some (y :: ys)
      | none => none
    | none => none
def tupR (K : PySem.W.Frag) (x : Str) : Option (List Str) := match K.lookup (He.ga K x) with
  | some o => (match o.cls with
    | .type t => (match o.data with
      | .seq its _ => if t = "tuple" ∧ its.size ≤ sizeLine then vStrs its.toList else none
      | _ => none)
    | _ => none)
  | none => none
def tupCk (K : PySem.W.Frag) (cs : List (Str × W)) : Bool := cs.all fun q => match q.2 with
  | .tup l => decide (tupR K q.1 = some (l.map wStr))
  | _ => true
theorem vStrs_vals : ∀ {its : List Value} {ys : List Str}, vStrs its = some ys → L2.Vals (ys.map V.str) its
  | [], ys, e => by cases e; exact .nil
  | v :: r, ys, e => by
    unfold vStrs at e
    cases v <;> simp only [vStr] at e <;> try (cases e; done)
    cases h : vStrs r with
    | none => rw [h] at e; cases e
    | some zs =>
      rw [h] at e
      cases e
      exact .cons ⟨_, rfl⟩ (vStrs_vals h)
theorem tupR_ok {K : PySem.W.Frag} {x : Str} {ys : List Str} (e : tupR K x = some ys) : KT K (He.ga K x) (ys.map V.str) := by
  unfold tupR at e
  split at e <;> try (cases e; done)
  rename_i o e1
  split at e <;> try (cases e; done)
  rename_i t e2
  split at e <;> try (cases e; done)
  rename_i its n e3
  split at e <;> try (cases e; done)
  rename_i hc
  exact ⟨o, its, n, e1, by rw [e2, hc.1], e3, hc.2, vStrs_vals e⟩
theorem reps_strs {C : Cn} {ρ : List Addr} {H : Hp} : ∀ {l : List W}, l.all wB = true → Reps C ρ H l ((l.map wStr).map V.str)
  | [], _ => by simp [Reps]
  | w :: r, h => by
    simp only [List.all_cons, Bool.and_eq_true] at h
    simp only [List.map_cons, Reps]
    refine ⟨?_, reps_strs h.2⟩
    cases w <;> try (cases h.1; done)
    exact Rep.mkS fun z hz => by simpa [wB] using List.all_eq_true.mp h.1 z hz
def Pk.fa (k : Pk) : List He.Fa := k.ds.map (fun d => .glo d.x) ++ (k.ds.map (fun d => .keep d.x) ++ (k.tls.map (fun d => .glo d.x) ++ (k.tls.map (fun d => .keep d.x) ++ (bnames.map .free ++ (k.cs.map cnF ++ (k.xs.map .glo ++ (k.xs.map .exc ++ (k.hs.map .glo ++ k.exms.map fun q => .exm q.1 q.2.1 q.2.2))))))))
section
variable {K : PySem.W.Frag} {fa : List He.Fa} {fn : List He.FnD}
theorem says_fact (c : He.SaysE fa fn K) {f : He.Fa} (h : f ∈ fa) : f.ok K = true := by
  have c1 := (He.ba (show ((fa.all fun f => f.ok K) && fn.all fun d => (He.Fa.code d.at_ d.qual).ok K) = true from congrArg (fun z : He.Al => z.1) c)).1
  exact List.all_eq_true.mp c1 f h
theorem says_fn (c : He.SaysE fa fn K) {d : He.FnD} (h : d ∈ fn) : ∃ oc od osl kV doc pm an cdv ct, K.lookup (He.fAd K d.at_) = some ⟨oc, od, .func (PySem.W.fnOf d.name d.qual d.params d.body d.scope .none kV doc pm an cdv ct), osl⟩ ∧ PySem.W.codeIn K cdv d.qual = true := by
  have c2 := (He.ba (show ((fa.all fun f => f.ok K) && fn.all fun d => (He.Fa.code d.at_ d.qual).ok K) = true from congrArg (fun z : He.Al => z.1) c)).2
  have e : fn.map (fun d => He.fnObs K d.at_) = fn.map He.FnD.val := congrArg (fun z : He.Al => z.2) c
  obtain ⟨i, hi⟩ := List.mem_iff_getElem?.mp h
  have e2 : (fn.map fun d => He.fnObs K d.at_)[i]? = (fn.map He.FnD.val)[i]? := by rw [e]
  rw [List.getElem?_map, List.getElem?_map, hi] at e2
  exact He.fn_ok (Option.some.inj e2) (List.all_eq_true.mp c2 d h)
end
/-! ### the table of a def that hands lambdas on -/
/-- the part of the heap that is known, without tables -/
def noTab (g : Addr → Option Obj) (a : Addr) : Bool := match g a with
  | some ⟨_, _, .fields vs, _⟩ => decide (vs.size ≠ 0)
  | _ => true
/-- the names that facts speak of -/
def faN : He.Fa → List Str
  | .glo x => [x]
  | .exc x => [x]
  | .exm x y _ => [x, y]
  | _ => []
/-- what the module's names among xs stand for -/
def namedG (g : Addr → Option Obj) (xs : List Str) : List Addr := match g mainGlobals with
  | some ⟨_, _, .dict es _, _⟩ => es.toList.flatMap fun e => if xs.any (fun x => e.key.isStr x) = true then He.refV e.val else []
  | _ => []
/-- these, and what they reach in n steps -/
def layG (g : Addr → Option Obj) : Nat → List Addr → List Addr
  | 0, as => as
  | n + 1, as => as ++ layG g n (as.flatMap fun a => match g a with
    | some o => He.refsO o
    | none => [])
def frK (n : Nat) (xs : List Str) (g : Addr → Option Obj) : PySem.W.Frag := He.frG g ((mainGlobals :: layG g n (namedG g xs)).filter (noTab g))
def tabOk (K : PySem.W.Frag) (g : Addr → Option Obj) (x : Str) : Option (Addr × Addr) :=
  match K.lookup (He.ga K x) with
  | some ⟨_, _, .func fd, _⟩ => (match fd.code with
    | .ref c => (match g c with
      | some ⟨.type t, _, .fields vs, _⟩ => (match (vs[11]? : Option Value) with
        | some (.ref P) => (match vs.getD 18 .none, vs.getD 7 .none, vs.getD 9 .none, vs.getD 10 .none with
          | .str _ _, .int _ _, .bool _, .int _ _ => (match g P with
            | some ⟨.none, none, .fields us, sl⟩ => if t = "code" ∧ c ≠ P ∧ us.size = 0 ∧ sl.size = 0 ∧ (K.lookup P).isNone = true then some (c, P) else none
            | _ => none)
          | _, _, _, _ => none)
        | _ => none)
      | _ => none)
    | _ => none)
  | _ => none
structure TabAt (K : PySem.W.Frag) (h : Heap) (x : Str) (c P : Addr) : Prop where
  code : ∃ oc od fd osl, K.lookup (He.ga K x) = some ⟨oc, od, .func fd, osl⟩ ∧ fd.code = .ref c
  hd : PySem.W.CodeHd h c P
  emp : h.get? P = some { cls := .none, data := .fields #[] }
  no : K.lookup P = none
theorem tabOk_at {K : PySem.W.Frag} {h : Heap} {x : Str} {c P : Addr} (e : tabOk K h.get? x = some (c, P)) : TabAt K h x c P := by
  unfold tabOk at e
  split at e <;> try (cases e; done)
  rename_i oc od fd osl e1
  split at e <;> try (cases e; done)
  rename_i c' e2
  split at e <;> try (cases e; done)
  rename_i t od2 vs sl2 e3
  split at e <;> try (cases e; done)
  rename_i P' e4
  split at e <;> try (cases e; done)
  rename_i file tf flags tg inF text tt e5 e6 e7 e8
  split at e <;> try (cases e; done)
  rename_i us sl e9
  split at e <;> try (cases e; done)
  rename_i hc
  obtain ⟨h1, h2, h3, h4, h5⟩ := hc
  simp only [Option.some.injEq, Prod.mk.injEq] at e
  obtain ⟨rfl, rfl⟩ := e
  subst h1
  refine ⟨⟨oc, od, fd, osl, e1, e2⟩, ⟨_, vs, file, tf, flags, tg, inF, text, tt, e3, rfl, rfl, e4, ?_, e5, e6, e7, e8, h2⟩, ?_, by simpa using h5⟩
  · rw [Array.getD_eq_getD_getElem?, e4]; rfl
  · rw [e9]
    rw [Array.size_eq_zero_iff.mp h3, Array.size_eq_zero_iff.mp h4]
/-- the Hook -/
def hookG (n : Nat) (fa : List He.Fa) (fn : List He.FnD) (lam : Option Str) (cs : List (Str × W)) : PySem.W.Hook where
  α := He.Al × Bool
  obs := fun s => (He.obsE fa fn (frK n (fa.flatMap faN) s.heap.get?), (match lam with | some x => (tabOk (frK n (fa.flatMap faN) s.heap.get?) s.heap.get? x).isSome | none => true) && tupCk (frK n (fa.flatMap faN) s.heap.get?) cs)
  val := fun _ => (He.valE fn, true)
  says := fun _ h => ∃ K : PySem.W.Frag, K.In h ∧ (He.SaysE fa fn K ∧ tupCk K cs = true) ∧ ∀ x, lam = some x → ∃ c P, TabAt K h x c P
  of := fun _ s e => by
    refine ⟨frK n (fa.flatMap faN) s.heap.get?, He.frG_in, ⟨(Prod.mk.inj e).1, (He.ba (Prod.mk.inj e).2).2⟩, fun x hx => ?_⟩
    have e2 := (He.ba (Prod.mk.inj e).2).1
    subst hx
    simp only at e2
    cases q : tabOk (frK n (fa.flatMap faN) s.heap.get?) s.heap.get? x with
    | none => rw [q] at e2; cases e2
    | some p => exact ⟨p.1, p.2, tabOk_at q⟩
  keeps := fun _ h h' ⟨K, hK, c, t⟩ k => by
    refine ⟨K, PySem.W.Frag.In.keeps hK k, c, fun x hx => ?_⟩
    obtain ⟨cc, P, t⟩ := t x hx
    refine ⟨cc, P, t.code, ?_, k _ _ t.emp, t.no⟩
    obtain ⟨o, vs, file, tf, flags, tg, inF, text, tt, e1, r⟩ := t.hd
    exact ⟨o, vs, file, tf, flags, tg, inF, text, tt, k _ _ e1, r⟩
def obG (n : Nat) (fa : List He.Fa) (fn : List He.FnD) (lam : Option Str) (cs : List (Str × W)) (s : PySem.W.SharedT) : He.Al × Bool :=
  (He.obsE fa fn (frK n (fa.flatMap faN) (HandSHeadRun.getT s)), (match lam with | some x => (tabOk (frK n (fa.flatMap faN) (HandSHeadRun.getT s)) (HandSHeadRun.getT s) x).isSome | none => true) && tupCk (frK n (fa.flatMap faN) (HandSHeadRun.getT s)) cs)
theorem obG_eq {n : Nat} {fa : List He.Fa} {fn : List He.FnD} {lam : Option Str} {cs : List (Str × W)} (s : PySem.W.SharedT) : obG n fa fn lam cs s = (hookG n fa fn lam cs).obs s.abs := by
  have e : HandSHeadRun.getT s = s.abs.heap.get? := funext (HandSHeadRun.getT_eq s)
  unfold obG hookG
  rw [e]
/-! ### the program -/
/-- what is looked at once for each def -/
structure DChk (k : Pk) (d : DD) : Prop where
  sc : FnScope d.N d.ps (defScope d.st)
  np : d.df.np = d.ps.length
  nl : d.df.nl = d.N.length
  bd : ∀ (kV doc pm : Value) (an : Option Addr) (cdv ct : Value) (us : List Value), us.length = d.ps.length → bindArgs (PySem.W.fnOf d.x d.x (defArgs d.st) (defBody d.st) (defScope d.st) .none kV doc pm an cdv ct) ⟨us, []⟩ = pure (d.ps.zip us)
  ck : ckS (if d.lam = true then k.nn else k.nn.no) k.xs d.N (defScope d.st) d.df.body (defBody d.st) = true
def AllP {α : Type} (p : α → Prop) : List α → Prop
  | [] => True
  | a :: r => p a ∧ AllP p r
theorem AllP.get {α : Type} {p : α → Prop} : ∀ {l : List α}, AllP p l → ∀ a ∈ l, p a
  | [], _, _, h => nomatch h
  | b :: r, h, a, hm => by
    rcases List.mem_cons.mp hm with e | e
    · rw [e]; exact h.1
    · exact AllP.get h.2 a e
def Pk.cn (k : Pk) (K : PySem.W.Frag) (T : List (Addr × Str)) : Cn := ⟨K, fun n => (k.ds[n]?).map fun d => He.ga K d.x, fun n => (k.xs[n]?).map (He.ga K), fun _ => False, T⟩
def lamQ (x : Str) : Str := (x ++ ".<locals>.") ++ "<lambda>"
/-- a program's own part -/
structure PkOk (k : Pk) : Prop where
  ds : AllP (DChk k) k.ds
  cs : (k.cs.all fun q => cnB q.2) = true
  lm : ∀ d ∈ k.ds, d.lam = true → k.lam = some d.x
theorem pk_dat {k : Pk} (ok : PkOk k) {K : PySem.W.Frag} {h : Heap} {mg : Str → Option Value} (X : K.In h) (G : h.Ns mainGlobals mg) (c : He.SaysE k.fa k.fn K) (cs : List (Addr × Addr)) (T : List (Addr × Str))
    (hl : ∀ x, k.lam = some x → ∃ cc P, cs = [(cc, P)] ∧ T = [(P, lamQ x)] ∧ TabAt K h x cc P) (n : Nat) (d : DD) (hd : k.ds[n]? = some d) :
    ∃ fd, DData K mg k.nn k.xs k.pg (k.cn K T) cs n d.x (He.ga K d.x) fd d.ps ∧ (∀ us : List Value, us.length = d.ps.length → bindArgs fd ⟨us, []⟩ = pure (d.ps.zip us)) ∧ mg d.x = some (.ref (He.ga K d.x)) := by
  have hm := List.mem_of_getElem? hd
  obtain ⟨sc, np, nl, bd, ck⟩ := ok.ds.get d hm
  obtain ⟨oc, od, osl, kV, doc, pm, an, cdv, ct, lk, hcd⟩ := says_fn c (d := fnD d.x d.st) (by simp only [Pk.fn, List.mem_append]; exact .inl (List.mem_map_of_mem (f := fun d => fnD d.x d.st) hm))
  have hg := He.glo_ok X G (says_fact c (f := .glo d.x) (by simp only [Pk.fa, List.mem_append]; exact .inl (List.mem_map_of_mem (f := fun d => He.Fa.glo d.x) hm)))
  refine ⟨_, ⟨d.st, d.N, d.df, oc, od, kV, doc, pm, an, cdv, ct, osl, rfl, by simp [Pk.cn, hd], hg,
    He.keep_ok (says_fact c (by simp only [Pk.fa, List.mem_append]; exact .inr (.inl (List.mem_map_of_mem (f := fun d => He.Fa.keep d.x) hm)))), lk, hcd, .all (bd kV doc pm an cdv ct), sc, by simp [Pk.pg, hd], np, nl, ?_⟩, bd kV doc pm an cdv ct, hg⟩
  cases e : d.lam with
  | false => rw [e] at ck; exact .inl ck
  | true =>
    rw [e] at ck
    obtain ⟨cc, P, e1, e2, t⟩ := hl d.x (ok.lm d hm e)
    obtain ⟨oc', od', fd', osl', lk', hc'⟩ := t.code
    have lk2 : K.lookup (He.ga K d.x) = some ⟨oc, od, .func (PySem.W.fnOf d.x d.x (defArgs d.st) (defBody d.st) (defScope d.st) .none kV doc pm an cdv ct), osl⟩ := lk
    rw [lk2] at lk'
    cases lk'
    refine .inr ⟨ck, cc, P, hc', by rw [e1]; simp, ?_, fun p hp _ => ?_⟩
    · show (P, _) ∈ T
      rw [e2]; exact List.mem_singleton.mpr rfl
    · have hp : p ∈ T := hp
      rw [e2] at hp
      rw [List.mem_singleton.mp hp]; rfl
theorem pk_ok {k : Pk} (ok : PkOk k) {K : PySem.W.Frag} {h : Heap} {mg : Str → Option Value} (X : K.In h) (G : h.Ns mainGlobals mg) (c : He.SaysE k.fa k.fn K) (ct : tupCk K k.cs = true) (cs : List (Addr × Addr)) (T : List (Addr × Str))
    (hl : ∀ x, k.lam = some x → ∃ cc P, cs = [(cc, P)] ∧ T = [(P, lamQ x)] ∧ TabAt K h x cc P)
    (tl : ∀ t ∈ k.tls, TellK K mg (k.cn K T) t.x t.row) : PgOk K mg k.nn k.xs k.pg (k.cn K T) cs where
  hK := rfl
  blt := fun x hx => He.free_ok X G (says_fact c (by simp only [Pk.fa, List.mem_append]; exact .inr (.inr (.inr (.inr (.inl (List.mem_map_of_mem hx)))))))
  df := fun n x hn => by
    simp only [Pk.nn, List.getElem?_map, Option.map_eq_some_iff] at hn
    obtain ⟨d, hd, rfl⟩ := hn
    obtain ⟨fd, D, _⟩ := pk_dat ok X G c cs T hl n d hd
    exact ⟨_, fd, d.ps, D⟩
  cn := fun n x hn => by
    simp only [Pk.nn, List.getElem?_map, Option.map_eq_some_iff] at hn
    obtain ⟨⟨y, w⟩, hd, rfl⟩ := hn
    have hm := List.mem_of_getElem? hd
    have f := says_fact c (f := cnF (y, w)) (by simp only [Pk.fa, List.mem_append]; exact .inr (.inr (.inr (.inr (.inr (.inl (List.mem_map_of_mem hm)))))))
    have b := List.all_eq_true.mp ok.cs _ hm
    have e : k.pg.consts[n]? = some w := by simp [Pk.pg, hd]
    cases w <;> try (simp [cnB] at b; done)
    · rename_i i
      obtain ⟨t, q⟩ := He.int_ok X G f
      exact ⟨_, .int i, _, q, ⟨t, rfl⟩, e, fun xi ρ H => Rep.mkI⟩
    · rename_i l
      obtain ⟨t, q⟩ := He.str_ok X G f
      exact ⟨_, .str (strOf l), _, q, ⟨t, rfl⟩, e, fun xi ρ H => Rep.mkS fun z hz => by simpa using List.all_eq_true.mp b z hz⟩
    · rename_i l
      have q := He.glo_ok X G f
      have e1 := of_decide_eq_true (List.all_eq_true.mp ct _ hm)
      refine ⟨_, .ref (He.ga K y), _, q, rfl, e, fun xi ρ H => ?_⟩
      simp only [Rep]
      exact ⟨_, _, rfl, .inr (tupR_ok e1), reps_strs b⟩
  er := fun n x hn => by
    have hm := List.mem_of_getElem? hn
    obtain ⟨h1, h2, h3, h4⟩ := He.exc_ok (says_fact c (f := .exc x) (by simp only [Pk.fa, List.mem_append]; exact .inr (.inr (.inr (.inr (.inr (.inr (.inr (.inl (List.mem_map_of_mem hm))))))))))
    exact ⟨He.ga K x, "ValueError", "ValueError.__new__", "ValueError.__init__", He.veBase, by simp [Pk.cn, hn], He.glo_ok X G (says_fact c (by simp only [Pk.fa, List.mem_append]; exact .inr (.inr (.inr (.inr (.inr (.inr (.inl (List.mem_map_of_mem hm))))))))), PySem.F.excBase_ValueError, h1, h2, h3, h4⟩
  tl := fun n x hn => by
    simp only [Pk.nn, List.getElem?_map, Option.map_eq_some_iff] at hn
    obtain ⟨t, ht, rfl⟩ := hn
    exact ⟨t.row, by simp [Pk.pg, ht], tl t (List.mem_of_getElem? ht)⟩
end G

set_option Elab.async false
set_option linter.all false
set_option autoImplicit false
set_option maxRecDepth 100000
set_option maxHeartbeats 4000000
/-! GF: the end: a law whose form answers True keeps its promise. -/
namespace G
open PySem PySem.Spec PyProof.Rows L2
/-- the form of the law answers True for every script -/
def LawTrue (k : Pk) (d i n : Nat) : Prop := ∀ ns : List Int, ns.length ≤ n → (∀ z ∈ ns, Builtin.Int.intBits z ≤ 1048576) → ∃ s', callD k.pg d i [.scr ns] [] = .ok (.bl true) s'
theorem law_sp {k : Pk} {K : PySem.W.Frag} {T : List (Addr × Str)} {cs : List (Addr × Addr)} {d i n : Nat} (hT : ∀ q ∈ T, ∃ p ∈ cs, q.1 = p.2) (L : LawTrue k d i n) (H : Hp) (a : Addr) (ns : List Int) (hl : ns.length ≤ n) (hb : ∀ z ∈ ns, Builtin.Int.intBits z ≤ 1048576)
    (hH : ∀ p ∈ cs, H p.2 = some (.tbl #[])) (hS : SqL K H a (ns.map V.int)) : spD (k.cn K T) k.pg d i [.ref a] H (fun v _ => v = .bl true) fun _ _ _ => False := by
  obtain ⟨s', e⟩ := L ns hl hb
  refine ⟨fun _ => False, [], [], [.scr ns], ⟨fun _ h => h.elim, fun q hq => ?_, rfl, List.nodup_nil, fun n xs h => by simp at h⟩, ?_, ?_⟩
  · obtain ⟨p, hp, e⟩ := hT q hq
    exact LamX.TabS.nil (by rw [e]; exact hH p hp)
  · refine Reps.one ?_
    simp only [Rep]
    refine ⟨a, rfl, ?_⟩
    rcases hS with h | h
    · exact .inl ⟨⟨by simp, fun h => h⟩, h⟩
    · exact .inr h
  · rw [e]
    exact fun ρ' H' v _ _ r => r.bl
/-- the end of a law -/
theorem law_at {l : PySem.W.OpenLaw} {w : World} {k : Pk} (ok : PkOk k) {K : PySem.W.Frag} {h : Heap} {mg : Str → Option Value} {f : Addr} {i d n : Nat} {x : Str} (X : K.In h) (G : h.Ns mainGlobals mg) (hf : mg "law" = some (.ref f)) (c : He.SaysE k.fa k.fn K ∧ tupCk K k.cs = true)
    (tb : ∀ x, k.lam = some x → ∃ cc P, TabAt K h x cc P) (hi : k.nn.fns[i]? = some "law") (hps : ∀ dd, k.ds[i]? = some dd → dd.ps = [x])
    (tl : ∀ T, ∀ t ∈ k.tls, TellK K mg (k.cn K T) t.x t.row) (L : LawTrue k d i n) : LamX.LawAtS l w K (L2.CX l.prog w) d n x mg f h := by
  -- the table
  obtain ⟨cs, T, hl, h2, h3, h4, h1⟩ : ∃ (cs : List (Addr × Addr)) (T : List (Addr × Str)), (∀ x, k.lam = some x → ∃ cc P, cs = [(cc, P)] ∧ T = [(P, lamQ x)] ∧ TabAt K h x cc P) ∧ (∀ p ∈ cs, h.get? p.2 = some { cls := .none, data := .fields #[] }) ∧ (∀ p ∈ cs, K.lookup p.2 = none) ∧
      (∀ p ∈ cs, PySem.W.CodeHd h p.1 p.2) ∧ ∀ q ∈ T, ∃ p ∈ cs, q.1 = p.2 := by
    cases e : k.lam with
    | none =>
      refine ⟨[], [], ?_, ?_, ?_, ?_, ?_⟩
      · intro x hx; cases hx
      all_goals (intro p hp; cases hp)
    | some y =>
      obtain ⟨cc, P, t⟩ := tb y e
      refine ⟨[(cc, P)], [(P, lamQ y)], fun x hx => ?_, fun p hp => ?_, fun p hp => ?_, fun p hp => ?_, fun q hq => ⟨(cc, P), by simp, ?_⟩⟩
      · have hx := Option.some.inj hx
        subst hx
        exact ⟨cc, P, rfl, rfl, t⟩
      · rw [List.mem_singleton.mp hp]; exact t.emp
      · rw [List.mem_singleton.mp hp]; exact t.no
      · rw [List.mem_singleton.mp hp]; exact t.hd
      · rw [List.mem_singleton.mp hq]
  have pk := pk_ok ok X G c.1 c.2 cs T hl (tl T)
  obtain ⟨dd, hd, ex⟩ : ∃ dd, k.ds[i]? = some dd ∧ dd.x = "law" := by
    have hi' : (k.ds.map (·.x))[i]? = some "law" := hi
    rw [List.getElem?_map] at hi'
    cases q : k.ds[i]? with
    | none => rw [q] at hi'; cases hi'
    | some dd => rw [q] at hi'; exact ⟨dd, rfl, Option.some.inj hi'⟩
  obtain ⟨fd, D, bd, hg⟩ := pk_dat ok X G c.1 cs T hl i dd hd
  have hn : k.nn.fns[i]? = some dd.x := by simp [Pk.nn, hd]
  rw [ex, hf] at hg
  have ef : f = He.ga K dd.x := by rw [ex]; injection hg with hg; injection hg
  have hx := hps dd hd
  refine ⟨fd, cs, spD (k.cn K T) k.pg d i, h2, h3, h4, fun s u => .of_eq ?_, fun H a ns hl hb hH hS => law_sp h1 L H a ns hl hb hH hS, fun base _ _ TB => ?_⟩
  · have := bd [u] (by rw [hx]; rfl)
    rw [hx] at this
    exact this
  · have := dat_ok (Pr := l.prog) (w := w) (base := base) pk TB d d (Nat.le_refl d) i dd.x hn _ fd dd.ps D
    rw [hx] at this
    rw [ef]
    exact this
theorem cx_false {P : Program} {w : World} {H : Hp} {s : Shared} {e : Value} {s' : Shared} (h : L2.CX P w [] H s (fun _ _ _ => False) e s') : False := by
  obtain ⟨_, _, _, _, _, _, _, _, _, _, _, _, z⟩ := h
  exact z
/-! facts of clauses and tellers -/
section
variable {k : Pk} {K : PySem.W.Frag} {h : Heap} {mg : Str → Option Value}
theorem glo_h (X : K.In h) (G : h.Ns mainGlobals mg) (c : He.SaysE k.fa k.fn K) {x : Str} (hx : x ∈ k.hs) : mg x = some (.ref (He.ga K x)) :=
  He.glo_ok X G (says_fact c (f := .glo x) (by simp only [Pk.fa, List.mem_append]; exact .inr (.inr (.inr (.inr (.inr (.inr (.inr (.inr (.inl (List.mem_map_of_mem hx)))))))))))
theorem exm_h (c : He.SaysE k.fa k.fn K) {x y : Str} {b : Bool} (hx : (x, y, b) ∈ k.exms) : PySem.W.exmOne K (.ref (He.ga K x)) (.ref (He.ga K y)) = some b :=
  He.exm_ok (says_fact c (f := .exm x y b) (by simp only [Pk.fa, List.mem_append]; exact .inr (.inr (.inr (.inr (.inr (.inr (.inr (.inr (.inr (List.mem_map_of_mem (f := fun q : Str × Str × Bool => He.Fa.exm q.1 q.2.1 q.2.2) hx)))))))))))
theorem tl_fn (c : He.SaysE k.fa k.fn K) {t : TD} (ht : t ∈ k.tls) : ∃ oc od osl kV doc pm an cdv ct, K.lookup (He.ga K t.x) = some ⟨oc, od, .func (PySem.W.fnOf t.x t.x (defArgs t.st) (defBody t.st) (defScope t.st) .none kV doc pm an cdv ct), osl⟩ ∧ PySem.W.codeIn K cdv t.x = true :=
  says_fn c (d := fnD t.x t.st) (by simp only [Pk.fn, List.mem_append]; exact .inr (List.mem_map_of_mem (f := fun d : TD => fnD d.x d.st) ht))
theorem tl_glo (X : K.In h) (G : h.Ns mainGlobals mg) (c : He.SaysE k.fa k.fn K) {t : TD} (ht : t ∈ k.tls) : mg t.x = some (.ref (He.ga K t.x)) :=
  He.glo_ok X G (says_fact c (f := .glo t.x) (by simp only [Pk.fa, List.mem_append]; exact .inr (.inr (.inl (List.mem_map_of_mem (f := fun d : TD => He.Fa.glo d.x) ht)))))
theorem tl_keep (c : He.SaysE k.fa k.fn K) {t : TD} (ht : t ∈ k.tls) : PySem.W.keepIn K (.ref (He.ga K t.x)) = true :=
  He.keep_ok (says_fact c (f := .keep t.x) (by simp only [Pk.fa, List.mem_append]; exact .inr (.inr (.inr (.inl (List.mem_map_of_mem (f := fun d : TD => He.Fa.keep d.x) ht))))))
end
end G

set_option Elab.async false
set_option linter.all false
set_option autoImplicit false
set_option maxRecDepth 100000
set_option maxHeartbeats 4000000
/-! GP: words for the plain laws. -/
namespace G
/-- a def of the program, called -/
theorem call_eq {P : Pg} {d n : Nat} {df : Def} {args : List W} {s : ST} (h : P.defs[n]? = some df) (hl : args.length = df.np) : callD P (d + 1) n args s =
    match evS P (callD P d) df.body (args.map some ++ List.replicate (df.nl - df.np) none) s with
        | .ok .nx _ s' => .ok .non s'
        | .ok (.rt w) _ s' => .ok w s'
        | .exc c l _ s' => .exc c l s'
        | _ => .err := by
  rw [callD]
  simp only [h]
  rw [if_pos hl]
  first
    | done
    | (split <;> simp_all)
end G
namespace G
section
variable {s : ST}
theorem wEq_str (x y : List Nat) : wEq s (.str x) (.str y) = some (x == y) := rfl
theorem wEq_int (x y : Int) : wEq s (.int x) (.int y) = some (x == y) := rfl
theorem wEq_bl (x y : Bool) : wEq s (.bl x) (.bl y) = some (x == y) := rfl
theorem cmp_in1 (c : Nat) (y : List Nat) : cmpop .isin (.str [c]) (.str y) s = some (decide (c ∈ y)) := rfl
theorem cmp_notin1 (c : Nat) (y : List Nat) : cmpop .notin (.str [c]) (.str y) s = some (!decide (c ∈ y)) := rfl
/-- rounds that keep the store -/
theorem comp_map {f : W → M (Option W)} {g : W → Option W} : ∀ {xs : List W}, (∀ x ∈ xs, f x s = .ok (g x) s) → comp f xs s = .ok (xs.filterMap g) s
  | [], _ => rfl
  | x :: xs, h => by
    have h1 := h x List.mem_cons_self
    have h2 := comp_map (fun y hy => h y (List.mem_cons_of_mem x hy))
    simp only [comp, bnd, h1, h2, ret]
    cases e : g x with
    | none => simp [ocons, e]
    | some y => simp [ocons, e]
end
end G
namespace G
section
variable {P : Pg} {call : Nat → List W → M W} {env : Env} {s s' : ST}
def stepG (P : Pg) (call : Nat → List W → M W) (t : T) (ifs e : E) (own : List Nat) (env : Env) : W → M (Option W) := fun w =>
  match asg t w (wipes env own) with
  | some env' => bnd (evB P call ifs env') fun r => if r then bnd (evE P call e env') fun y => ret (some y) else ret none
  | none => fail
theorem evE_lc {t : T} {it ifs e : E} {own : List Nat} : evE P call (.lc t it ifs e own) env s = bnd (evI P call it env) (fun src => bnd (noexc (fits (compS (stepG P call t ifs e own env) P.fuel src))) fun ys => ret (.lst ys)) s := by rw [evE]; rfl
def stepH (P : Pg) (call : Nat → List W → M W) (t : T) (b : S) : W → Env → ST → RS := fun w env s => match asg t w env with
  | some env' => evS P call b env' s
  | none => .err
theorem evS_for {t : T} {it : E} {b : S} : evS P call (.forr t it b) env s = eS (evI P call it env) env (fun src s' => forA (stepH P call t b) P.fuel src env s') s := by rw [evS]; rfl
theorem lc_row {t : T} {it ifs e : E} {own : List Nat} {xs : List W} (hi : evI P call it env s = .ok (.row xs) s') (g : W → Option W)
    (hg : ∀ x ∈ xs, ∃ env', asg t x (wipes env own) = some env' ∧ ((g x = none ∧ evB P call ifs env' s' = .ok false s') ∨ ∃ y, g x = some y ∧ evB P call ifs env' s' = .ok true s' ∧ evE P call e env' s' = .ok y s'))
    (hl : xs.length ≤ line) : evE P call (.lc t it ifs e own) env s = .ok (.lst (xs.filterMap g)) s' := by
  have hc := comp_map (f := stepG P call t ifs e own env) (g := g) (s := s') (xs := xs) (fun x hx => by
    obtain ⟨env', e1, h | ⟨y, h1, h2, h3⟩⟩ := hg x hx
    · simp [stepG, e1, bnd, h.2, ret, h.1]
    · simp [stepG, e1, bnd, h2, h3, ret, h1])
  have hl2 : (xs.filterMap g).length ≤ line := Nat.le_trans (List.length_filterMap_le g xs) hl
  rw [evE_lc]
  simp only [bnd, hi, noexc, fits, compS, hc]
  rw [if_pos hl2]
  rfl
/-- a comprehension whose items change the store -/
theorem comp_inv {f : W → M (Option W)} (Inv : Nat → List W → ST → Prop) : ∀ {xs : List W} {i : Nat} {acc : List W} {s : ST}, Inv i acc s → (∀ j x acc s, xs[j]? = some x → Inv (i + j) acc s → ∃ o s', f x s = .ok o s' ∧ Inv (i + j + 1) (acc ++ o.toList) s') →
    ∃ ys s', comp f xs s = .ok ys s' ∧ Inv (i + xs.length) (acc ++ ys) s'
  | [], i, acc, s, h0, _ => ⟨[], s, rfl, by simpa using h0⟩
  | x :: xs, i, acc, s, h0, hs => by
    obtain ⟨o, s1, e1, h1⟩ := hs 0 x acc s rfl h0
    obtain ⟨ys, s2, e2, h2⟩ := comp_inv (f := f) Inv (xs := xs) (i := i + 1) (acc := acc ++ o.toList) (s := s1) h1 (fun j y acc s hj hi => by
      have := hs (j + 1) y acc s (by simpa using hj) (by rw [show i + (j + 1) = i + 1 + j from by omega]; exact hi)
      rw [show i + (j + 1) + 1 = i + 1 + j + 1 from by omega] at this
      exact this)
    refine ⟨ocons o ys, s2, by simp only [comp, bnd, e1, e2]; rfl, ?_⟩
    rw [List.length_cons, show i + (xs.length + 1) = i + 1 + xs.length from by omega]
    cases o with
    | none => simpa [ocons, Option.toList] using h2
    | some y => simpa [ocons, Option.toList] using h2
theorem lc_inv {t : T} {it ifs e : E} {own : List Nat} {xs : List W} (hi : evI P call it env s = .ok (.row xs) s') (Inv : Nat → List W → ST → Prop) (h0 : Inv 0 [] s')
    (hs : ∀ j x acc s, xs[j]? = some x → Inv j acc s → ∃ env', asg t x (wipes env own) = some env' ∧ ((∃ s1, evB P call ifs env' s = .ok false s1 ∧ Inv (j + 1) acc s1) ∨ ∃ s1 y s2, evB P call ifs env' s = .ok true s1 ∧ evE P call e env' s1 = .ok y s2 ∧ Inv (j + 1) (acc ++ [y]) s2))
    (hl : ∀ ys s, Inv xs.length ys s → ys.length ≤ line) : ∃ ys s2, evE P call (.lc t it ifs e own) env s = .ok (.lst ys) s2 ∧ Inv xs.length ys s2 := by
  obtain ⟨ys, s2, e1, h1⟩ := comp_inv (f := stepG P call t ifs e own env) Inv (xs := xs) (i := 0) (acc := []) h0 (fun j x acc s hj hi => by
    rw [Nat.zero_add] at hi ⊢
    obtain ⟨env', e1, ⟨s1, h1, h2⟩ | ⟨s1, y, s2, h1, h2, h3⟩⟩ := hs j x acc s hj hi
    · exact ⟨none, s1, by simp [stepG, e1, bnd, h1, ret], by simpa using h2⟩
    · exact ⟨some y, s2, by simp [stepG, e1, bnd, h1, h2, ret], h3⟩)
  rw [Nat.zero_add, List.nil_append] at h1
  refine ⟨ys, s2, ?_, h1⟩
  rw [evE_lc]
  simp only [bnd, hi, noexc, fits, compS, e1]
  rw [if_pos (hl _ _ h1)]
  rfl
theorem forS_inv {b : W → Env → ST → RS} (Inv : Nat → Env → ST → Prop) : ∀ {xs : List W} {i : Nat} {env : Env} {s : ST}, Inv i env s → (∀ j x env s, xs[j]? = some x → Inv (i + j) env s → ∃ env' s', b x env s = .ok .nx env' s' ∧ Inv (i + j + 1) env' s') → ∃ env' s', forS b xs env s = .ok .nx env' s' ∧ Inv (i + xs.length) env' s'
  | [], i, env, s, h0, _ => ⟨env, s, rfl, h0⟩
  | x :: xs, i, env, s, h0, hs => by
    obtain ⟨env1, s1, e1, h1⟩ := hs 0 x env s rfl h0
    obtain ⟨env2, s2, e2, h2⟩ := forS_inv (b := b) Inv (xs := xs) (i := i + 1) h1 (fun j y env s hj hi => by
      have := hs (j + 1) y env s (by simpa using hj) (by rw [show i + (j + 1) = i + 1 + j from by omega]; exact hi)
      rw [show i + (j + 1) + 1 = i + 1 + j + 1 from by omega] at this
      exact this)
    refine ⟨env2, s2, by simp only [forS, e1, e2], ?_⟩
    rw [List.length_cons, show i + (xs.length + 1) = i + 1 + xs.length from by omega]
    exact h2
theorem for_inv {t : T} {it : E} {b : S} {xs : List W} (hi : evI P call it env s = .ok (.row xs) s') (Inv : Nat → Env → ST → Prop) (h0 : Inv 0 env s')
    (hs : ∀ j x env s, xs[j]? = some x → Inv j env s → ∃ env1 env' s', asg t x env = some env1 ∧ evS P call b env1 s = .ok .nx env' s' ∧ Inv (j + 1) env' s') : ∃ env' s2, evS P call (.forr t it b) env s = .ok .nx env' s2 ∧ Inv xs.length env' s2 := by
  obtain ⟨env2, s2, e1, h1⟩ := forS_inv (b := stepH P call t b) Inv (xs := xs) (i := 0) h0 (fun j x env s hj hi => by
    rw [Nat.zero_add] at hi ⊢
    obtain ⟨env1, env', s', a1, a2, a3⟩ := hs j x env s hj hi
    exact ⟨env', s', by simp [stepH, a1, a2], a3⟩)
  rw [Nat.zero_add] at h1
  refine ⟨env2, s2, ?_, h1⟩
  rw [evS_for]
  simp only [eS, hi, forA, e1]
end
end G
namespace G
section
variable {P : Pg} {call : Nat → List W → M W} {env : Env} {s : ST}
@[simp] theorem xE_var {i : Nat} : evE P call (.var i) env = (opt (match env[i]? with | some (some w) => some w | _ => none)) := by rw [evE] <;> rfl
@[simp] theorem xE_k {w : W} : evE P call (.k w) env = (ret w) := by rw [evE] <;> rfl
@[simp] theorem xE_glob {n : Nat} : evE P call (.glob n) env = (opt P.consts[n]?) := by rw [evE] <;> rfl
@[simp] theorem xE_fnv {n : Nat} : evE P call (.fnv n) env = (ret (.fn n)) := by rw [evE] <;> rfl
@[simp] theorem xE_bin {op : Bop} {a : E} {b : E} : evE P call (.bin op a b) env = (bnd (evE P call a env) fun x => bnd (evE P call b env) fun y => rd (binop op (soft x) (soft y))) := by rw [evE] <;> rfl
@[simp] theorem xE_neg {a : E} : evE P call (.neg a) env = (bnd (evE P call a env) fun x => match x with | .int i => ret (.int (-i)) | _ => fail) := by rw [evE] <;> rfl
@[simp] theorem xE_cmp {op : Cop} {a : E} {b : E} : evE P call (.cmp op a b) env = (bnd (evE P call a env) fun x => bnd (evE P call b env) fun y => bnd (rd (cmpop op (soft x) (soft y))) fun r => ret (.bl r)) := by rw [evE] <;> rfl
@[simp] theorem xE_chain {op : Cop} {op' : Cop} {a : E} {b : E} {c : E} : evE P call (.chain op op' a b c) env = (bnd (evE P call a env) fun x => bnd (evE P call b env) fun y => bnd (rd (cmpop op (soft x) (soft y))) fun r =>
      if r then bnd (evE P call c env) fun z => bnd (rd (cmpop op' (soft y) (soft z))) fun r' => ret (.bl r') else ret (.bl false)) := by rw [evE] <;> rfl
@[simp] theorem xE_and {a : E} {b : E} : evE P call (.and a b) env = (bnd (evE P call a env) fun x => match x with | .bl true => evE P call b env | .bl false => ret (.bl false) | _ => fail) := by rw [evE] <;> rfl
@[simp] theorem xE_or {a : E} {b : E} : evE P call (.or a b) env = (bnd (evE P call a env) fun x => match x with | .bl true => ret (.bl true) | .bl false => evE P call b env | _ => fail) := by rw [evE] <;> rfl
@[simp] theorem xE_not {a : E} : evE P call (.not a) env = (bnd (evE P call a env) fun x => match x with | .bl r => ret (.bl (!r)) | _ => fail) := by rw [evE] <;> rfl
@[simp] theorem xE_ife {c : E} {a : E} {b : E} : evE P call (.ife c a b) env = (bnd (evE P call c env) fun x => match x with | .bl true => evE P call a env | .bl false => evE P call b env | _ => fail) := by rw [evE] <;> rfl
@[simp] theorem xE_tup {l : E} : evE P call (.tup l) env = (bnd (fits (evA P call l env)) fun xs => ret (.tup xs)) := by rw [evE] <;> rfl
@[simp] theorem xE_lst {l : E} : evE P call (.lst l) env = (bnd (fits (evA P call l env)) fun xs => ret (.lst xs)) := by rw [evE] <;> rfl
@[simp] theorem xE_mlst {l : E} : evE P call (.mlst l) env = (bnd (fits (evA P call l env)) fun xs => fun s => .ok (.ref s.length) (s ++ [xs])) := by rw [evE] <;> rfl
@[simp] theorem xE_ix {a : E} {b : E} : evE P call (.ix a b) env = (bnd (evE P call a env) fun x => bnd (evE P call b env) fun y => rd (item (soft x) y)) := by rw [evE] <;> rfl
@[simp] theorem xE_sl {a : E} {lo : E} {hi : E} : evE P call (.sl a lo hi) env = (bnd (evE P call a env) fun x => bnd (evO P call lo env) fun l => bnd (evO P call hi env) fun h => rd (slice (soft x) l h)) := by rw [evE] <;> rfl
@[simp] theorem xE_slx {a : E} {lo : E} {hi : E} {st : Int} : evE P call (.slx a lo hi st) env = (bnd (evE P call a env) fun x => bnd (evO P call lo env) fun l => bnd (evO P call hi env) fun h => bnd (rd fun s => seqL s x) fun xs => if st = 0 then fail else ret (.lst (cutX xs l h st))) := by rw [evE] <;> rfl
@[simp] theorem xE_htup {l : E} : evE P call (.htup l) env = (bnd (fits (evA P call l env)) fun xs => ret (.htup xs)) := by rw [evE] <;> rfl
@[simp] theorem xE_lens {a : E} : evE P call (.lens a) env = (bnd (evE P call a env) fun x => rd (biop .lenset [x])) := by rw [evE] <;> rfl
@[simp] theorem x_bi_htuple {l : E} : evE P call (.bi .htuple l) env = (bnd (evA P call l env) fun xs => rd (biop .htuple xs)) := by rw [evE] <;> first | rfl | (intro h; cases h)
@[simp] theorem xE_no  : evE P call (.no) env = (ret .non) := by rw [evE] <;> rfl
@[simp] theorem xE_rev {a : E} : evE P call (.rev a) env = (bnd (evE P call a env) fun x => bnd (rd fun s => seqL s x) fun xs => ret (.lst xs.reverse)) := by rw [evE] <;> rfl
@[simp] theorem xE_call {n : Nat} {l : E} : evE P call (.call n l) env = (bnd (evA P call l env) fun xs => call n xs) := by rw [evE] <;> rfl
@[simp] theorem xE_bi_mlist {l : E} : evE P call (.bi .mlist l) env = (bnd (evA P call l env) fun xs => bnd (rd (biop .list xs)) fun w => match w with
      | .lst ys => fun s => .ok (.ref s.length) (s ++ [ys])
      | _ => fail) := by rw [evE] <;> rfl
@[simp] theorem x_bi_len {l : E} : evE P call (.bi .len l) env = (bnd (evA P call l env) fun xs => rd (biop .len xs)) := by rw [evE] <;> first | rfl | (intro h; cases h)
@[simp] theorem x_bi_abs {l : E} : evE P call (.bi .abs l) env = (bnd (evA P call l env) fun xs => rd (biop .abs xs)) := by rw [evE] <;> first | rfl | (intro h; cases h)
@[simp] theorem x_bi_int {l : E} : evE P call (.bi .int l) env = (bnd (evA P call l env) fun xs => rd (biop .int xs)) := by rw [evE] <;> first | rfl | (intro h; cases h)
@[simp] theorem x_bi_str {l : E} : evE P call (.bi .str l) env = (bnd (evA P call l env) fun xs => rd (biop .str xs)) := by rw [evE] <;> first | rfl | (intro h; cases h)
@[simp] theorem x_bi_list {l : E} : evE P call (.bi .list l) env = (bnd (evA P call l env) fun xs => rd (biop .list xs)) := by rw [evE] <;> first | rfl | (intro h; cases h)
@[simp] theorem x_bi_tuple {l : E} : evE P call (.bi .tuple l) env = (bnd (evA P call l env) fun xs => rd (biop .tuple xs)) := by rw [evE] <;> first | rfl | (intro h; cases h)
@[simp] theorem x_bi_dict {l : E} : evE P call (.bi .dict l) env = (bnd (evA P call l env) fun xs => rd (biop .dict xs)) := by rw [evE] <;> first | rfl | (intro h; cases h)
@[simp] theorem x_bi_max {l : E} : evE P call (.bi .max l) env = (bnd (evA P call l env) fun xs => rd (biop .max xs)) := by rw [evE] <;> first | rfl | (intro h; cases h)
@[simp] theorem x_bi_min {l : E} : evE P call (.bi .min l) env = (bnd (evA P call l env) fun xs => rd (biop .min xs)) := by rw [evE] <;> first | rfl | (intro h; cases h)
@[simp] theorem x_bi_sum {l : E} : evE P call (.bi .sum l) env = (bnd (evA P call l env) fun xs => rd (biop .sum xs)) := by rw [evE] <;> first | rfl | (intro h; cases h)
@[simp] theorem x_bi_all {l : E} : evE P call (.bi .all l) env = (bnd (evA P call l env) fun xs => rd (biop .all xs)) := by rw [evE] <;> first | rfl | (intro h; cases h)
@[simp] theorem x_bi_any {l : E} : evE P call (.bi .any l) env = (bnd (evA P call l env) fun xs => rd (biop .any xs)) := by rw [evE] <;> first | rfl | (intro h; cases h)
@[simp] theorem x_bi_sorted {l : E} : evE P call (.bi .sorted l) env = (bnd (evA P call l env) fun xs => rd (biop .sorted xs)) := by rw [evE] <;> first | rfl | (intro h; cases h)
@[simp] theorem x_bi_isi {l : E} : evE P call (.bi .isi l) env = (bnd (evA P call l env) fun xs => rd (biop .isi xs)) := by rw [evE] <;> first | rfl | (intro h; cases h)
@[simp] theorem x_bi_lenset {l : E} : evE P call (.bi .lenset l) env = (bnd (evA P call l env) fun xs => rd (biop .lenset xs)) := by rw [evE] <;> first | rfl | (intro h; cases h)
@[simp] theorem xE_meth {m : Me} {o : E} {l : E} : evE P call (.meth m o l) env = (bnd (evE P call o env) fun x => match m.isL, x with
      | true, .ref n => bnd (evA P call l env) fun xs => meL m n xs
      | false, .str a => bnd (evA P call l env) fun xs => meS m a xs
      | _, _ => fail) := by rw [evE] <;> rfl
@[simp] theorem xE_lzip {a : E} {b : E} : evE P call (.lzip a b) env = (bnd (evE P call a env) fun x => bnd (evE P call b env) fun y => match soft x, soft y with
      | .tup xs, .tup ys => ret (.lst (zipW xs ys))
      | _, _ => fail) := by rw [evE] <;> rfl
@[simp] theorem xE_lrng {l : E} : evE P call (.lrng l) env = (bnd (evA P call l env) fun xs => bnd (opt (rngOf xs)) fun ys => ret (.lst ys)) := by rw [evE] <;> rfl
@[simp] theorem xE_clo {n : Nat} {l : E} : evE P call (.clo n l) env = (tellM P n (bnd (call P.defs.length []) fun _ => evE P (fun m xs => call (m + (P.defs.length + 1)) xs) l env)) := by rw [evE] <;> rfl
@[simp] theorem xA_nil  : evA P call (.nil) env = (ret []) := by rw [evA] <;> rfl
@[simp] theorem xA_cons {a : E} {b : E} : evA P call (.cons a b) env = (bnd (evE P call a env) fun x => bnd (evA P call b env) fun xs => ret (x :: xs)) := by rw [evA] <;> rfl
@[simp] theorem xO_no  : evO P call (.no) env = (ret none) := by rw [evO] <;> rfl
@[simp] theorem xO_itr {a : E} : evO P call (.itr a) env = (bnd (evE P call a env) fun x => match x with | .int i => ret (some i) | _ => fail) := by rw [evO] <;> rfl
@[simp] theorem xB_nil  : evB P call (.nil) env = (ret true) := by rw [evB] <;> rfl
@[simp] theorem xB_cons {a : E} {b : E} : evB P call (.cons a b) env = (bnd (evE P call a env) fun x => match x with | .bl true => evB P call b env | .bl false => ret false | _ => fail) := by rw [evB] <;> rfl
@[simp] theorem xI_rng {l : E} : evI P call (.rng l) env = (bnd (evA P call l env) fun xs => bnd (opt (rngOf xs)) fun ys => ret (.row ys)) := by rw [evI] <;> rfl
@[simp] theorem xI_enum {a : E} : evI P call (.enum a) env = (bnd (evE P call a env) fun x => opt (srcEnum x)) := by rw [evI] <;> rfl
@[simp] theorem xI_zip {a : E} {b : E} : evI P call (.zip a b) env = (bnd (evE P call a env) fun x => bnd (evE P call b env) fun y => rd fun s => srcZip s (soft x) (soft y)) := by rw [evI] <;> rfl
@[simp] theorem xI_itr {a : E} : evI P call (.itr a) env = (bnd (evE P call a env) fun x => opt (srcOf (soft x))) := by rw [evI] <;> rfl
end
end G
namespace G
section
variable {P : Pg} {call : Nat → List W → M W} {env : Env} {s : ST}
@[simp] theorem xS_nil  : evS P call (.nil) env s = (.ok .nx env s) := by rw [evS] <;> rfl
@[simp] theorem xS_seq {a : S} {b : S} : evS P call (.seq a b) env s = (match evS P call a env s with
    | .ok .nx env' s' => evS P call b env' s'
    | r => r) := by rw [evS] <;> rfl
@[simp] theorem xS_asg {t : T} {e : E} : evS P call (.asg t e) env s = (eS (evE P call e env) env (fun w s' => match asg t w env with
    | some env' => .ok .nx env' s'
    | none => .err) s) := by rw [evS] <;> rfl
@[simp] theorem xS_par2 {i : Nat} {j : Nat} {a : E} {b : E} : evS P call (.par2 i j a b) env s = (eS (evE P call a env) env (fun x s' => eS (evE P call b env) env (fun y s'' =>
      if i < env.length ∧ j < env.length ∧ i ≠ j then .ok .nx ((env.set i (some x)).set j (some y)) s'' else .err) s') s) := by rw [evS] <;> rfl
@[simp] theorem xS_par3 {i : Nat} {j : Nat} {l : Nat} {a : E} {b : E} {c : E} : evS P call (.par3 i j l a b c) env s = (eS (evE P call a env) env (fun x s' => eS (evE P call b env) env (fun y s'' => eS (evE P call c env) env (fun z s3 =>
      if i < env.length ∧ j < env.length ∧ l < env.length ∧ i ≠ j ∧ i ≠ l ∧ j ≠ l then .ok .nx (((env.set i (some x)).set j (some y)).set l (some z)) s3 else .err) s'') s') s) := by rw [evS] <;> rfl
@[simp] theorem xS_seti {o : E} {i : E} {e : E} : evS P call (.seti o i e) env s = (eS (evE P call e env) env (fun w s1 => eS (evE P call o env) env (fun x s2 => eS (evE P call i env) env (fun y s3 =>
      match x, y with
      | .ref n, .int k => match s3[n]? with
        | some ys => match ixOf k ys.length with
          | some j => .ok .nx env (s3.set n (ys.set j w))
          | none => .err
        | none => .err
      | _, _ => .err) s2) s1) s) := by rw [evS] <;> rfl
@[simp] theorem xS_expr {e : E} : evS P call (.expr e) env s = (eS (evE P call e env) env (fun _ s' => .ok .nx env s') s) := by rw [evS] <;> rfl
@[simp] theorem xS_rt {e : E} : evS P call (.rt e) env s = (eS (evE P call e env) env (fun w s' => .ok (.rt w) env s') s) := by rw [evS] <;> rfl
@[simp] theorem xS_rtn  : evS P call (.rtn) env s = (.ok (.rt .non) env s) := by rw [evS] <;> rfl
@[simp] theorem xS_ife {c : E} {a : S} {b : S} : evS P call (.ife c a b) env s = (eS (evE P call c env) env (fun x s' => match x with
    | .bl true => evS P call a env s'
    | .bl false => evS P call b env s'
    | _ => .err) s) := by rw [evS] <;> rfl
@[simp] theorem xS_brk  : evS P call (.brk) env s = (.ok .bk env s) := by rw [evS] <;> rfl
@[simp] theorem xS_cnt  : evS P call (.cnt) env s = (.ok .ct env s) := by rw [evS] <;> rfl
@[simp] theorem xS_pass  : evS P call (.pass) env s = (.ok .nx env s) := by rw [evS] <;> rfl
@[simp] theorem xS_raise {c : Nat} {l : E} : evS P call (.raise c l) env s = (eS (evA P call l env) env (fun xs s' => .exc c xs env s') s) := by rw [evS] <;> rfl
end
end G
namespace G
section
variable {P : Pg} {call : Nat → List W → M W} {env : Env} {s s' : ST} {α : Type}
theorem filterMap_if {l : List α} {f : α → W} {p : α → Bool} {h : α → W} (g : W → Option W) (hg : ∀ c ∈ l, g (f c) = if p c then some (h c) else none) : (l.map f).filterMap g = (l.filter p).map h := by
  induction l with
  | nil => rfl
  | cons c l ih =>
    have ih := ih fun c hc => hg c (List.mem_cons_of_mem _ hc)
    have h1 := hg c List.mem_cons_self
    cases hp : p c with
    | true => rw [hp] at h1; simp [h1, hp, ih]
    | false => rw [hp] at h1; simp [h1, hp, ih]
open Classical in
theorem lc_filtL {t : T} {it ifs e : E} {own : List Nat} {l : List α} {f h : α → W} {p : α → Bool} (hi : evI P call it env s = .ok (.row (l.map f)) s') (hinj : ∀ a b, f a = f b → a = b)
    (hg : ∀ c ∈ l, ∃ env', asg t (f c) (wipes env own) = some env' ∧ evB P call ifs env' s' = .ok (p c) s' ∧ (p c = true → evE P call e env' s' = .ok (h c) s')) (hl : l.length ≤ line) : evE P call (.lc t it ifs e own) env s = .ok (.lst ((l.filter p).map h)) s' := by
  have hgs : ∀ c ∈ l, (fun w => if hx : ∃ c, f c = w then (if p hx.choose then some (h hx.choose) else none) else none : W → Option W) (f c) = if p c then some (h c) else none := fun c _ => by
    have hx : ∃ c', f c' = f c := ⟨c, rfl⟩
    have : hx.choose = c := hinj _ _ hx.choose_spec
    simp only [hx, dif_pos, this]
  have key := lc_row (t := t) (ifs := ifs) (e := e) (own := own) hi (fun w => if hx : ∃ c, f c = w then (if p hx.choose then some (h hx.choose) else none) else none) (fun x hx => by
    obtain ⟨c, hc, rfl⟩ := List.mem_map.mp hx
    obtain ⟨env', a1, a2, a3⟩ := hg c hc
    refine ⟨env', a1, ?_⟩
    have e := hgs c hc
    cases hp : p c with
    | true => rw [hp] at e a2; exact .inr ⟨h c, by simpa using e, a2, a3 hp⟩
    | false => rw [hp] at e a2; exact .inl ⟨by simpa using e, a2⟩) (by rw [List.length_map]; exact hl)
  rw [key]
  rw [filterMap_if _ hgs]
theorem lc_mapL {t : T} {it e : E} {own : List Nat} {l : List α} {f h : α → W} (hi : evI P call it env s = .ok (.row (l.map f)) s') (hinj : ∀ a b, f a = f b → a = b)
    (hg : ∀ c ∈ l, ∃ env', asg t (f c) (wipes env own) = some env' ∧ evE P call e env' s' = .ok (h c) s') (hl : l.length ≤ line) : evE P call (.lc t it .nil e own) env s = .ok (.lst (l.map h)) s' := by
  have := lc_filtL (t := t) (ifs := .nil) (e := e) (own := own) (h := h) (p := fun _ => true) hi hinj (fun c hc => by
    obtain ⟨env', a1, a2⟩ := hg c hc
    exact ⟨env', a1, by simp [ret], fun _ => a2⟩) hl
  rw [this, List.filter_eq_self.mpr (fun _ _ => rfl)]
theorem boolsW_map {l : List α} {q : α → Bool} : boolsW (l.map fun c => .bl (q c)) = some (l.map q) := by
  induction l with
  | nil => rfl
  | cons c l ih => simp [boolsW, ih]
theorem str1_inj : ∀ a b : Nat, (W.str [a]) = (W.str [b]) → a = b := fun a b h => by
  injection h with h; injection h
end
end G

set_option Elab.async false
set_option linter.all false
set_option autoImplicit false
set_option maxRecDepth 100000
set_option maxHeartbeats 4000000
/-! GQ: loops; draws of a law, by the numbers of its defs. -/
namespace G
theorem whl_rule {c : Env → M W} {b : Env → ST → RS} {Q : RS → Prop} (Inv : Nat → Env → ST → Prop) (h0 : ∀ env s, Inv 0 env s → False)
    (hs : ∀ k env s, Inv (k + 1) env s → (c env s = .ok (.bl false) s ∧ Q (.ok .nx env s)) ∨ (c env s = .ok (.bl true) s ∧ ((∃ env' s', b env s = .ok .nx env' s' ∧ Inv k env' s') ∨ (∃ env' s', b env s = .ok .bk env' s' ∧ Q (.ok .nx env' s')) ∨ ∃ w env' s', b env s = .ok (.rt w) env' s' ∧ Q (.ok (.rt w) env' s')))) :
    ∀ {n k : Nat} {env : Env} {s : ST}, k ≤ n → Inv k env s → Q (whileS c b n env s)
  | n, 0, env, s, _, i => (h0 env s i).elim
  | 0, k + 1, _, _, h, _ => by omega
  | n + 1, k + 1, env, s, h, i => by
    unfold whileS
    rcases hs k env s i with ⟨e, q⟩ | ⟨e, ⟨env', s', e2, i'⟩ | ⟨env', s', e2, q⟩ | ⟨w, env', s', e2, q⟩⟩
    · simp only [eS, e]; exact q
    · simp only [eS, e, e2]
      exact whl_rule Inv h0 hs (by omega) i'
    · simp only [eS, e, e2]; exact q
    · simp only [eS, e, e2]; exact q
theorem evS_whl {P : Pg} {call : Nat → List W → M W} {c : E} {b : S} {env : Env} {s : ST} : evS P call (.whl c b) env s = whileS (fun env => evE P call c env) (fun env s => evS P call b env s) P.fuel env s := by rw [evS]
@[simp] theorem soft_non : soft .non = .non := rfl
@[simp] theorem soft_bl {b : Bool} : soft (.bl b) = .bl b := rfl
@[simp] theorem soft_int {i : Int} : soft (.int i) = .int i := rfl
@[simp] theorem soft_str {l : List Nat} : soft (.str l) = .str l := rfl
@[simp] theorem soft_tup {l : List W} : soft (.tup l) = .tup l := rfl
@[simp] theorem soft_htup {l : List W} : soft (.htup l) = .tup l := rfl
@[simp] theorem soft_lst {l : List W} : soft (.lst l) = .lst l := rfl
@[simp] theorem soft_dct {k : List (List Nat)} {l : List W} : soft (.dct k l) = .dct k l := rfl
@[simp] theorem soft_ref {n : Nat} : soft (.ref n) = .ref n := rfl
@[simp] theorem soft_scr {n : List Int} : soft (.scr n) = .scr n := rfl
@[simp] theorem soft_ty {n : String} : soft (.ty n) = .ty n := rfl
@[simp] theorem soft_fn {n : Nat} : soft (.fn n) = .fn n := rfl
/-! texts in rows -/
theorem memOk_str {y : List Nat} {L : List (List Nat)} : memOk (.str y) (L.map W.str) = true := by
  show (L.map W.str).all (fun z => eqOk 63 z (.str y)) = true
  rw [List.all_map, List.all_eq_true]
  intro x _
  simp [bnd, G.ret, rd, opt, eS, item, seqI, seqL, ixOf, cmpop, biop, bInt, bLen, bList, bAbs, binop, big, asg, fits, line, wEq_str, wEq_int, wEq_bl, eqOk, isSc]
theorem erase_perm {α : Type} : ∀ {l : List α} {i : Nat} {x : α}, l[i]? = some x → (x :: l.eraseIdx i).Perm l
  | [], i, x, h => by simp [bnd, G.ret, rd, opt, eS, item, seqI, seqL, ixOf, cmpop, biop, bInt, bLen, bList, bAbs, binop, big, asg, fits, line, wEq_str, wEq_int, wEq_bl] at h
  | a :: l, 0, x, h => by simp [bnd, G.ret, rd, opt, eS, item, seqI, seqL, ixOf, cmpop, biop, bInt, bLen, bList, bAbs, binop, big, asg, fits, line, wEq_str, wEq_int, wEq_bl] at h; subst h; exact List.Perm.refl _
  | a :: l, i + 1, x, h => by
    have := erase_perm (l := l) (i := i) (x := x) (by simpa [bnd, G.ret, rd, opt, eS, item, seqI, seqL, ixOf, cmpop, biop, bInt, bLen, bList, bAbs, binop, big, asg, fits, line, wEq_str, wEq_int, wEq_bl] using h)
    exact (List.Perm.swap a x _).trans (this.cons a)
theorem any_str {y : List Nat} {L : List (List Nat)} : ((L.map W.str).any fun x => weq x (.str y)) = decide (y ∈ L) := by
  induction L with
  | nil => simp [bnd, G.ret, rd, opt, eS, item, seqI, seqL, ixOf, cmpop, biop, bInt, bLen, bList, bAbs, binop, big, asg, fits, line, wEq_str, wEq_int, wEq_bl]
  | cons a L ih =>
    rw [List.map_cons, List.any_cons, ih]
    by_cases h : a = y
    · subst h; simp [bnd, G.ret, rd, opt, eS, item, seqI, seqL, ixOf, cmpop, biop, bInt, bLen, bList, bAbs, binop, big, asg, fits, line, wEq_str, wEq_int, wEq_bl, weq]
    · have h1 : (a == y) = false := by simpa [bnd, G.ret, rd, opt, eS, item, seqI, seqL, ixOf, cmpop, biop, bInt, bLen, bList, bAbs, binop, big, asg, fits, line, wEq_str, wEq_int, wEq_bl] using h
      have h2 : ¬ y = a := fun e => h e.symm
      simp [bnd, G.ret, rd, opt, eS, item, seqI, seqL, ixOf, cmpop, biop, bInt, bLen, bList, bAbs, binop, big, asg, fits, line, wEq_str, wEq_int, wEq_bl, weq, h1, h2]
theorem in_lst {y : List Nat} {L : List (List Nat)} {s : ST} : cmpop .isin (.str y) (.lst (L.map W.str)) s = some (decide (y ∈ L)) := by
  rcases y with _ | ⟨c, _ | ⟨d, r⟩⟩ <;> simp only [cmpop, seqI, memOk_str, if_true, any_str]
theorem notin_lst {y : List Nat} {L : List (List Nat)} {s : ST} : cmpop .notin (.str y) (.lst (L.map W.str)) s = some (!decide (y ∈ L)) := by
  rcases y with _ | ⟨c, _ | ⟨d, r⟩⟩ <;> simp only [cmpop, seqI, memOk_str, if_true, any_str]
theorem in_tup {y : List Nat} {L : List (List Nat)} {s : ST} : cmpop .isin (.str y) (.tup (L.map W.str)) s = some (decide (y ∈ L)) := by
  rcases y with _ | ⟨c, _ | ⟨d, r⟩⟩ <;> simp only [cmpop, seqI, memOk_str, if_true, any_str]
theorem notin_tup {y : List Nat} {L : List (List Nat)} {s : ST} : cmpop .notin (.str y) (.tup (L.map W.str)) s = some (!decide (y ∈ L)) := by
  rcases y with _ | ⟨c, _ | ⟨d, r⟩⟩ <;> simp only [cmpop, seqI, memOk_str, if_true, any_str]
theorem wstr_inj : ∀ a b : List Nat, W.str a = W.str b → a = b := fun _ _ h => by injection h
theorem strsW_map : ∀ {L : List (List Nat)}, strsW (L.map W.str) = some L
  | [] => rfl
  | a :: L => by simp [bnd, G.ret, rd, opt, eS, item, seqI, seqL, ixOf, cmpop, biop, bInt, bLen, bList, bAbs, binop, big, asg, fits, line, wEq_str, wEq_int, wEq_bl, strsW, strsW_map (L := L)]
/-! a dict of pairs -/
theorem putS_new {k : List Nat} {v : W} {l : List (List Nat × W)} (h : k ∉ l.map (·.1)) : putS k v l = l ++ [(k, v)] := by
  unfold putS
  rw [if_neg]
  intro q
  obtain ⟨p, hp, e⟩ := List.any_eq_true.mp q
  exact h (List.mem_map.mpr ⟨p, hp, by simpa [bnd, G.ret, rd, opt, eS, item, seqI, seqL, ixOf, cmpop, biop, bInt, bLen, bList, bAbs, binop, big, asg, fits, line, wEq_str, wEq_int, wEq_bl] using e⟩)
theorem dictOf_nd : ∀ {ps acc : List (List Nat × W)}, ((acc ++ ps).map (·.1)).Nodup → ps.foldl (fun d p => putS p.1 p.2 d) acc = acc ++ ps
  | [], acc, _ => by simp [bnd, G.ret, rd, opt, eS, item, seqI, seqL, ixOf, cmpop, biop, bInt, bLen, bList, bAbs, binop, big, asg, fits, line, wEq_str, wEq_int, wEq_bl]
  | p :: ps, acc, h => by
    have hp : p.1 ∉ acc.map (·.1) := fun q => by
      rw [List.map_append, List.nodup_append] at h
      exact h.2.2 p.1 q p.1 (by simp [bnd, G.ret, rd, opt, eS, item, seqI, seqL, ixOf, cmpop, biop, bInt, bLen, bList, bAbs, binop, big, asg, fits, line, wEq_str, wEq_int, wEq_bl]) rfl
    rw [List.foldl_cons, putS_new hp]
    have h2 : ((acc ++ [(p.1, p.2)] ++ ps).map (·.1)).Nodup := by simpa [bnd, G.ret, rd, opt, eS, item, seqI, seqL, ixOf, cmpop, biop, bInt, bLen, bList, bAbs, binop, big, asg, fits, line, wEq_str, wEq_int, wEq_bl] using h
    rw [dictOf_nd h2]
    simp [bnd, G.ret, rd, opt, eS, item, seqI, seqL, ixOf, cmpop, biop, bInt, bLen, bList, bAbs, binop, big, asg, fits, line, wEq_str, wEq_int, wEq_bl]
/-! ### draws -/
def cupB : S := (.seq (.asg (.v 1) (.bi .abs (.cons (.ix (.bin .add (.bi .list (.cons (.var 0) .nil)) (.lst (.cons (.k (.int 0)) .nil))) (.k (.int 0))) .nil))) (.seq (.rt (.mlst (.cons (.ife (.cmp .ge (.var 1) (.bin .pow (.k (.int 10)) (.k (.int 18)))) (.bin .fdiv (.var 1) (.k (.int 11))) (.k (.int 0))) (.cons (.bin .add (.bin .mod (.bi .int (.cons (.bin .add (.bin .mul (.var 1) (.k (.int 193))) (.k (.int 1201))) .nil)) (.k (.int 2077504273))) (.k (.int 89))) .nil)))) .nil))
def rollB : S := (.seq (.ife (.cmp .gt (.ix (.var 0) (.k (.int 0))) (.k (.int 0))) (.seq (.asg (.v 2) (.bin .mod (.bi .int (.cons (.ix (.var 0) (.k (.int 0))) .nil)) (.var 1))) (.seq (.seti (.var 0) (.k (.int 0)) (.bin .fdiv (.ix (.var 0) (.k (.int 0))) (.var 1))) (.seq (.rt (.var 2)) .nil))) .nil) (.seq (.seti (.var 0) (.k (.int 1)) (.bin .mod (.bi .int (.cons (.bin .add (.bin .mul (.ix (.var 0) (.k (.int 1))) (.k (.int 30671))) (.k (.int 7919))) .nil)) (.k (.int 2147483549)))) (.seq (.asg (.v 3) (.bin .mod (.bi .int (.cons (.bin .mul (.ix (.var 0) (.k (.int 1))) (.bin .add (.ix (.var 0) (.k (.int 1))) (.k (.int 131)))) .nil)) (.k (.int 2147483587)))) (.seq (.rt (.bin .mod (.bi .int (.cons (.bin .fdiv (.var 3) (.k (.int 709))) .nil)) (.var 1))) .nil))))
def someB (r : Nat) : S := (.seq (.rt (.ix (.var 1) (.call r (.cons (.var 0) (.cons (.bi .len (.cons (.var 1) .nil)) .nil))))) .nil)
def shufB (r : Nat) : S := (.seq (.par2 2 3 (.bi .mlist (.cons (.var 1) .nil)) (.mlst .nil)) (.seq (.whl (.cmp .ne (.var 2) (.lst .nil)) (.seq (.expr (.meth .append (.var 3) (.cons (.meth .pop (.var 2) (.cons (.call r (.cons (.var 0) (.cons (.bi .len (.cons (.var 2) .nil)) .nil))) .nil)) .nil))) .nil)) (.seq (.rt (.var 3)) .nil)))
abbrev cup (a b : Int) (t : ST) : ST := [.int a, .int b] :: t
section
variable {P : Pg}
theorem cup_law {n : Nat} (h : P.defs[n]? = some ⟨1, 2, cupB⟩) (d : Nat) (ns : List Int) (hn : ns.length ≤ 63) : ∃ a b, callD P (d + 1) n [.scr ns] [] = .ok (.ref 0) (cup a b []) := by
  rw [call_eq h rfl]
  obtain ⟨n, r, e, hr⟩ : ∃ (n : Int) (r : List W), ns.map W.int ++ [.int 0] = .int n :: r ∧ r.length ≤ 63 := by
    cases ns with
    | nil => exact ⟨0, [], rfl, by simp [bnd, G.ret, rd, opt, eS, item, seqI, seqL, ixOf, cmpop, biop, bInt, bLen, bList, bAbs, binop, big, asg, fits, line, wEq_str, wEq_int, wEq_bl]⟩
    | cons n ns => exact ⟨n, _, rfl, by simpa [bnd, G.ret, rd, opt, eS, item, seqI, seqL, ixOf, cmpop, biop, bInt, bLen, bList, bAbs, binop, big, asg, fits, line, wEq_str, wEq_int, wEq_bl] using hn⟩
  have hl : ns.length + 1 ≤ 16777216 := by omega
  obtain ⟨c, hc⟩ : ∃ c : Int, c = if n < 0 then -n else n := ⟨_, rfl⟩
  by_cases h18 : 1000000000000000000 ≤ c
  · refine ⟨c / 11, (c * 193 + 1201) % 2077504273 + 89, ?_⟩
    simp [bnd, G.ret, rd, opt, eS, item, seqI, seqL, ixOf, cmpop, biop, bInt, bLen, bList, bAbs, binop, big, asg, fits, line, wEq_str, wEq_int, wEq_bl, cupB, e, hl, ← hc, h18]
  · refine ⟨0, (c * 193 + 1201) % 2077504273 + 89, ?_⟩
    simp [bnd, G.ret, rd, opt, eS, item, seqI, seqL, ixOf, cmpop, biop, bInt, bLen, bList, bAbs, binop, big, asg, fits, line, wEq_str, wEq_int, wEq_bl, cupB, e, hl, ← hc, h18]
theorem roll_law {n : Nat} (h : P.defs[n]? = some ⟨2, 4, rollB⟩) (d : Nat) (m a b : Int) (t : ST) (hm : 0 < m) (hmb : m < 18446744073709551616) :
    ∃ r a' b', 0 ≤ r ∧ r < m ∧ callD P (d + 1) n [.ref 0, .int m] (cup a b t) = .ok (.int r) (cup a' b' t) := by
  by_cases ha : 0 < a
  · refine ⟨a % m, a / m, b, Int.emod_nonneg _ (by omega), Int.emod_lt_of_pos _ hm, ?_⟩
    rw [call_eq h rfl]
    simp [bnd, G.ret, rd, opt, eS, item, seqI, seqL, ixOf, cmpop, biop, bInt, bLen, bList, bAbs, binop, big, asg, fits, line, wEq_str, wEq_int, wEq_bl, rollB, ha, hm, hmb]
  · obtain ⟨b1, hb1⟩ : ∃ b1, b1 = (b * 30671 + 7919) % 2147483549 := ⟨_, rfl⟩
    have hb2 : 0 ≤ b1 ∧ b1 < 2147483549 := by rw [hb1]; omega
    have c1 : -18446744073709551616 < b1 ∧ b1 < 18446744073709551616 := by omega
    refine ⟨(b1 * (b1 + 131)) % 2147483587 / 709 % m, a, b1, Int.emod_nonneg _ (by omega), Int.emod_lt_of_pos _ hm, ?_⟩
    rw [call_eq h rfl]
    simp [bnd, G.ret, rd, opt, eS, item, seqI, seqL, ixOf, cmpop, biop, bInt, bLen, bList, bAbs, binop, big, asg, fits, line, wEq_str, wEq_int, wEq_bl, rollB, ha, hm, hmb, ← hb1, c1]
theorem some_law {n r : Nat} (hr : P.defs[r]? = some ⟨2, 4, rollB⟩) (h : P.defs[n]? = some ⟨2, 2, someB r⟩) (d : Nat) (xs : List W) (a b : Int) (t : ST) (h0 : 0 < xs.length) (hl : xs.length < 1000) :
    ∃ (i : Nat) (x : W) (a' b' : Int), xs[i]? = some x ∧ callD P (d + 2) n [.ref 0, .lst xs] (cup a b t) = .ok x (cup a' b' t) := by
  obtain ⟨k, a', b', h1, h2, e⟩ := roll_law hr d xs.length a b t (by omega) (by omega)
  have hk : k.toNat < xs.length := by omega
  refine ⟨k.toNat, xs[k.toNat], a', b', List.getElem?_eq_getElem hk, ?_⟩
  rw [call_eq h rfl]
  simp [bnd, G.ret, rd, opt, eS, item, seqI, seqL, ixOf, cmpop, biop, bInt, bLen, bList, bAbs, binop, big, asg, fits, line, wEq_str, wEq_int, wEq_bl, someB, e, h1, h2, hk]
/-- what shuffled leaves: its two lists behind the store -/
theorem shuf_law {n r : Nat} (hr : P.defs[r]? = some ⟨2, 4, rollB⟩) (h : P.defs[n]? = some ⟨2, 4, shufB r⟩) (hf : 1000 ≤ P.fuel) (d : Nat) (w : W) (xs : List W) (a b : Int) (t : ST) (hw : bList (cup a b t) [w] = some (.lst xs)) (hl : xs.length < 1000) :
    ∃ (ys : List W) (a' b' : Int), ys.Perm xs ∧ callD P (d + 2) n [.ref 0, w] (cup a b t) = .ok (.ref (t.length + 2)) (cup a' b' (t ++ [[], ys])) := by
  rw [call_eq h rfl]
  have key := whl_rule (c := fun env => evE P (callD P (d + 1)) (.cmp .ne (.var 2) (.lst .nil)) env) (b := fun env s => evS P (callD P (d + 1)) (.seq (.expr (.meth .append (.var 3) (.cons (.meth .pop (.var 2) (.cons (.call r (.cons (.var 0) (.cons (.bi .len (.cons (.var 2) .nil)) .nil))) .nil)) .nil))) .nil) env s)
    (Q := fun R => ∃ (ys : List W) (a' b' : Int), ys.Perm xs ∧ R = .ok .nx [some (.ref 0), some w, some (.ref (t.length + 1)), some (.ref (t.length + 2))] (cup a' b' (t ++ [[], ys])))
    (fun k env s => ∃ (zs ys : List W) (a' b' : Int), zs.length < k ∧ (ys ++ zs).Perm xs ∧ env = [some (.ref 0), some w, some (.ref (t.length + 1)), some (.ref (t.length + 2))] ∧ s = cup a' b' (t ++ [zs, ys]))
    (fun env s ⟨_, _, _, _, h, _⟩ => by omega)
    (fun k env s ⟨zs, ys, a', b', hk, hp, he, hs⟩ => by
      subst he
      subst hs
      have g1 : (t ++ [zs, ys])[t.length]? = some zs := by simp [bnd, G.ret, rd, opt, eS, item, seqI, seqL, ixOf, cmpop, biop, bInt, bLen, bList, bAbs, binop, big, asg, fits, line, wEq_str, wEq_int, wEq_bl]
      cases zs with
      | nil =>
        refine .inl ⟨?_, ys, a', b', by simpa [bnd, G.ret, rd, opt, eS, item, seqI, seqL, ixOf, cmpop, biop, bInt, bLen, bList, bAbs, binop, big, asg, fits, line, wEq_str, wEq_int, wEq_bl] using hp, rfl⟩
        simp [bnd, G.ret, rd, opt, eS, item, seqI, seqL, ixOf, cmpop, biop, bInt, bLen, bList, bAbs, binop, big, asg, fits, line, wEq_str, wEq_int, wEq_bl, wEq, deref, g1, eqOk, eqOks, weq, weqs]
      | cons z zs =>
        refine .inr ⟨?_, .inl ?_⟩
        · simp [bnd, G.ret, rd, opt, eS, item, seqI, seqL, ixOf, cmpop, biop, bInt, bLen, bList, bAbs, binop, big, asg, fits, line, wEq_str, wEq_int, wEq_bl, wEq, deref, g1, eqOk, eqOks, weq, weqs]
        · have hlz : (z :: zs).length < 1000 := by
            have := hp.length_eq
            simp only [List.length_append] at this
            omega
          have hly : ys.length < 1000 := by
            have := hp.length_eq
            simp only [List.length_append] at this
            omega
          obtain ⟨i, a2, b2, h1, h2, e⟩ := roll_law hr d (z :: zs).length a' b' (t ++ [z :: zs, ys]) (by simp only [List.length_cons]; omega) (by omega)
          have hi : i.toNat < (z :: zs).length := by omega
          refine ⟨_, cup a2 b2 (t ++ [(z :: zs).eraseIdx i.toNat, ys ++ [(z :: zs)[i.toNat]]]), ?_, (z :: zs).eraseIdx i.toNat, ys ++ [(z :: zs)[i.toNat]], a2, b2, ?_, ?_, rfl, rfl⟩
          · have e' : callD P (d + 1) r [.ref 0, .int ((zs.length : Int) + 1)] (cup a' b' (t ++ [z :: zs, ys])) = .ok (.int i) (cup a2 b2 (t ++ [z :: zs, ys])) := by
              simpa [bnd, G.ret, rd, opt, eS, item, seqI, seqL, ixOf, cmpop, biop, bInt, bLen, bList, bAbs, binop, big, asg, fits, line, wEq_str, wEq_int, wEq_bl] using e
            have g2 : (z :: zs)[i.toNat]? = some (z :: zs)[i.toNat] := List.getElem?_eq_getElem hi
            have c1 : -1000000 < i ∧ i < 1000000 := by omega
            have h2' : i < (zs.length : Int) + 1 := by simpa [bnd, G.ret, rd, opt, eS, item, seqI, seqL, ixOf, cmpop, biop, bInt, bLen, bList, bAbs, binop, big, asg, fits, line, wEq_str, wEq_int, wEq_bl] using h2
            have c2 : ys.length < 16777216 := by omega
            simp [bnd, G.ret, rd, opt, eS, item, seqI, seqL, ixOf, cmpop, biop, bInt, bLen, bList, bAbs, binop, big, asg, fits, line, wEq_str, wEq_int, wEq_bl, g1, e', Me.isL, meL, mPop, mApp, h1, h2', c1, c2, List.set_append]
          · rw [List.length_eraseIdx_of_lt hi]
            simp only [List.length_cons] at hk ⊢
            omega
          · refine List.Perm.trans ?_ hp
            rw [List.append_assoc]
            exact List.Perm.append_left ys (erase_perm (List.getElem?_eq_getElem hi)))
    (n := P.fuel) (k := xs.length + 1) (env := [some (.ref 0), some w, some (.ref (t.length + 1)), some (.ref (t.length + 2))]) (s := cup a b (t ++ [xs, []])) (by omega) ⟨xs, [], a, b, by omega, by simp [bnd, G.ret, rd, opt, eS, item, seqI, seqL, ixOf, cmpop, biop, bInt, bLen, bList, bAbs, binop, big, asg, fits, line, wEq_str, wEq_int, wEq_bl], rfl, rfl⟩
  obtain ⟨ys, a', b', hp, key⟩ := key
  refine ⟨ys, a', b', hp, ?_⟩
  have ml : evE P (callD P (d + 1)) (.bi .mlist (.cons (.var 1) .nil)) [some (.ref 0), some w, none, none] (cup a b t) = .ok (.ref (t.length + 1)) (cup a b (t ++ [xs])) := by
    rw [xE_bi_mlist]
    have hw' : biop .list [w] (cup a b t) = some (.lst xs) := hw
    simp [bnd, G.ret, rd, opt, eS, item, seqI, seqL, ixOf, cmpop, biop, bInt, bLen, bList, bAbs, binop, big, asg, fits, line, wEq_str, wEq_int, wEq_bl, hw', -biop]
  have key := evS_whl.trans key
  simp [bnd, G.ret, rd, opt, eS, item, seqI, seqL, ixOf, cmpop, biop, bInt, bLen, bList, bAbs, binop, big, asg, fits, line, wEq_str, wEq_int, wEq_bl, shufB, ml, key]
end
end G

set_option Elab.async false
set_option linter.all false
set_option autoImplicit false
set_option maxRecDepth 100000
set_option maxHeartbeats 4000000
namespace K18
open PySem G L2
def top (i : Nat) : Stmt := PySem.Challenge.pw_restartlisp_k18_classes_that_are_refused.main.body.getD i (.Pass ⟨0, 0, 0, 0⟩)
def N_is_row_of : List Str := ["value", "low", "high"]
def b_is_row_of : G.S := (.seq (.rt (.and (.bi .isi (.cons (.var 0) (.cons (.k (.ty "tuple")) .nil))) (.chain .le .le (.var 1) (.bi .len (.cons (.var 0) .nil)) (.var 2)))) .nil)
def d_is_row_of : DD := ⟨"is_row_of", top 18, N_is_row_of, ["value", "low", "high"], ⟨3, 3, b_is_row_of⟩, false⟩
def N_is_made_of : List Str := ["text", "signs", "sign"]
def b_is_made_of : G.S := (.seq (.rt (.and (.cmp .ne (.var 0) (.k (.str []))) (.bi .all (.cons (.lc (.v 2) (.itr (.var 0)) .nil (.cmp .isin (.var 2) (.var 1)) [2]) .nil)))) .nil)
def d_is_made_of : DD := ⟨"is_made_of", top 19, N_is_made_of, ["text", "signs"], ⟨2, 3, b_is_made_of⟩, false⟩
def N_is_figures : List Str := ["text"]
def b_is_figures : G.S := (.seq (.rt (.call 1 (.cons (.ife (.cmp .isin (.sl (.var 0) .no (.itr (.k (.int 1)))) (.tup (.cons (.k (.str [43])) (.cons (.k (.str [45])) .nil)))) (.sl (.var 0) (.itr (.k (.int 1))) .no) (.var 0)) (.cons (.glob 1) .nil)))) .nil)
def d_is_figures : DD := ⟨"is_figures", top 20, N_is_figures, ["text"], ⟨1, 1, b_is_figures⟩, false⟩
def N_fits_word : List Str := ["value"]
def b_fits_word : G.S := (.seq (.ife (.or (.not (.bi .isi (.cons (.var 0) (.cons (.k (.ty "str")) .nil)))) (.not (.call 1 (.cons (.var 0) (.cons (.glob 2) .nil))))) (.seq (.rt (.k (.bl false))) .nil) .nil) (.seq (.rt (.and (.cmp .le (.bi .len (.cons (.var 0) .nil)) (.glob 0)) (.and (.cmp .ne (.var 0) (.k (.str [110, 105, 108]))) (.not (.call 2 (.cons (.var 0) .nil)))))) .nil))
def d_fits_word : DD := ⟨"fits_word", top 21, N_fits_word, ["value"], ⟨1, 1, b_fits_word⟩, false⟩
def N_fits_name : List Str := ["value"]
def b_fits_name : G.S := (.seq (.rt (.and (.call 3 (.cons (.var 0) .nil)) (.and (.cmp .ne (.var 0) (.k (.str [116]))) (.cmp .ne (.ix (.var 0) (.k (.int 0))) (.k (.str [58])))))) .nil)
def d_fits_name : DD := ⟨"fits_name", top 22, N_fits_name, ["value"], ⟨1, 1, b_fits_name⟩, false⟩
def N_are_unlike : List Str := ["items"]
def b_are_unlike : G.S := (.seq (.rt (.cmp .eq (.lens (.var 0)) (.bi .len (.cons (.var 0) .nil)))) .nil)
def d_are_unlike : DD := ⟨"are_unlike", top 32, N_are_unlike, ["items"], ⟨1, 1, b_are_unlike⟩, false⟩
def N_fits_parents : List Str := ["names", "row", "one"]
def b_fits_parents : G.S := (.seq (.ife (.not (.bi .all (.cons (.lc (.v 2) (.itr (.ix (.var 1) (.k (.int 1)))) .nil (.and (.bi .isi (.cons (.var 2) (.cons (.k (.ty "str")) .nil))) (.and (.cmp .isin (.var 2) (.var 0)) (.cmp .ne (.var 2) (.ix (.var 1) (.k (.int 0)))))) [2]) .nil))) (.seq (.rt (.k (.bl false))) .nil) .nil) (.seq (.rt (.call 5 (.cons (.ix (.var 1) (.k (.int 1))) .nil))) .nil))
def d_fits_parents : DD := ⟨"fits_parents", top 54, N_fits_parents, ["names", "row"], ⟨2, 3, b_fits_parents⟩, false⟩
def N_fits_classes : List Str := ["value", "names", "row", "name"]
def b_fits_classes : G.S := (.seq (.ife (.or (.not (.call 0 (.cons (.var 0) (.cons (.k (.int 0)) (.cons (.glob 4) .nil))))) (.not (.bi .all (.cons (.lc (.v 2) (.itr (.var 0)) .nil (.and (.call 0 (.cons (.var 2) (.cons (.k (.int 2)) (.cons (.k (.int 2)) .nil)))) (.call 4 (.cons (.ix (.var 2) (.k (.int 0))) .nil))) [2]) .nil)))) (.seq (.rt (.k (.bl false))) .nil) .nil) (.seq (.asg (.v 1) (.lc (.v 2) (.itr (.var 0)) .nil (.ix (.var 2) (.k (.int 0))) [2])) (.seq (.ife (.or (.not (.call 5 (.cons (.var 1) .nil))) (.bi .any (.cons (.lc (.v 3) (.itr (.var 1)) .nil (.cmp .isin (.var 3) (.glob 3)) [3]) .nil))) (.seq (.rt (.k (.bl false))) .nil) .nil) (.seq (.rt (.bi .all (.cons (.lc (.v 2) (.itr (.var 0)) .nil (.and (.call 0 (.cons (.ix (.var 2) (.k (.int 1))) (.cons (.k (.int 0)) (.cons (.k (.int 4)) .nil)))) (.call 6 (.cons (.var 1) (.cons (.var 2) .nil)))) [2]) .nil))) .nil))))
def d_fits_classes : DD := ⟨"fits_classes", top 55, N_fits_classes, ["value"], ⟨1, 4, b_fits_classes⟩, false⟩
def N_with_above : List Str := ["classes", "name", "rules", "found", "at", "one"]
def b_with_above : G.S := (.seq (.asg (.cons (.v 2) (.cons (.v 3) (.cons (.v 4) .nil))) (.tup (.cons (.bi .dict (.cons (.var 0) .nil)) (.cons (.lst (.cons (.var 1) .nil)) (.cons (.k (.int 0)) .nil))))) (.seq (.whl (.cmp .lt (.var 4) (.bi .len (.cons (.var 3) .nil))) (.seq (.asg (.v 3) (.bin .add (.var 3) (.lc (.v 5) (.itr (.ix (.var 2) (.ix (.var 3) (.var 4)))) (.cons (.cmp .notin (.var 5) (.var 3)) .nil) (.var 5) [5]))) (.seq (.asg (.v 4) (.bin .add (.var 4) (.k (.int 1)))) .nil))) (.seq (.rt (.var 3)) .nil)))
def d_with_above : DD := ⟨"with_above", top 56, N_with_above, ["classes", "name"], ⟨2, 6, b_with_above⟩, false⟩
def N_orders_in : List Str := ["classes", "name", "rules", "found", "one", "row"]
def b_orders_in : G.S := (.seq (.par2 2 3 (.bi .dict (.cons (.var 0) .nil)) (.lst .nil)) (.seq (.forr (.v 4) (.itr (.call 8 (.cons (.var 0) (.cons (.var 1) .nil)))) (.seq (.asg (.v 5) (.bin .add (.tup (.cons (.var 4) .nil)) (.ix (.var 2) (.var 4)))) (.seq (.asg (.v 3) (.bin .add (.var 3) (.lzip (.var 5) (.sl (.var 5) (.itr (.k (.int 1))) .no)))) .nil))) (.seq (.rt (.var 3)) .nil)))
def d_orders_in : DD := ⟨"orders_in", top 57, N_orders_in, ["classes", "name"], ⟨2, 6, b_orders_in⟩, false⟩
def N_free_in : List Str := ["pairs", "left", "one", "pair"]
def b_free_in : G.S := (.seq (.rt (.lc (.v 2) (.itr (.var 1)) (.cons (.not (.bi .any (.cons (.lc (.v 3) (.itr (.var 0)) .nil (.and (.cmp .eq (.ix (.var 3) (.k (.int 1))) (.var 2)) (.cmp .isin (.ix (.var 3) (.k (.int 0))) (.var 1))) [3]) .nil))) .nil) (.var 2) [2])) .nil)
def d_free_in : DD := ⟨"free_in", top 58, N_free_in, ["pairs", "left"], ⟨2, 4, b_free_in⟩, false⟩
def N_next_of : List Str := ["rules", "found", "some", "child", "one"]
def b_next_of : G.S := (.seq (.forr (.v 3) (.itr (.rev (.var 1))) (.seq (.forr (.v 4) (.itr (.var 2)) (.seq (.ife (.cmp .isin (.var 4) (.ix (.var 0) (.var 3))) (.seq (.rt (.var 4)) .nil) .nil) .nil)) .nil)) (.seq (.rt (.ix (.var 2) (.k (.int 0)))) .nil))
def d_next_of : DD := ⟨"next_of", top 59, N_next_of, ["rules", "found", "some"], ⟨3, 5, b_next_of⟩, false⟩
def N_precedence_in : List Str := ["classes", "name", "rules", "pairs", "left", "found", "some", "one", "other"]
def b_precedence_in : G.S := (.seq (.asg (.cons (.v 2) (.cons (.v 3) (.cons (.v 4) (.cons (.v 5) .nil)))) (.tup (.cons (.bi .dict (.cons (.var 0) .nil)) (.cons (.call 9 (.cons (.var 0) (.cons (.var 1) .nil))) (.cons (.call 8 (.cons (.var 0) (.cons (.var 1) .nil))) (.cons (.lst .nil) .nil)))))) (.seq (.whl (.cmp .ne (.var 4) (.lst .nil)) (.seq (.asg (.v 6) (.call 10 (.cons (.var 3) (.cons (.var 4) .nil)))) (.seq (.ife (.cmp .eq (.var 6) (.lst .nil)) (.seq (.rt (.k .non)) .nil) .nil) (.seq (.asg (.v 7) (.call 11 (.cons (.var 2) (.cons (.var 5) (.cons (.var 6) .nil))))) (.seq (.par2 5 4 (.bin .add (.var 5) (.lst (.cons (.var 7) .nil))) (.lc (.v 8) (.itr (.var 4)) (.cons (.cmp .ne (.var 8) (.var 7)) .nil) (.var 8) [8])) .nil))))) (.seq (.rt (.bi .tuple (.cons (.var 5) .nil))) .nil)))
def d_precedence_in : DD := ⟨"precedence_in", top 60, N_precedence_in, ["classes", "name"], ⟨2, 9, b_precedence_in⟩, false⟩
def N_are_sound : List Str := ["value", "row"]
def b_are_sound : G.S := (.seq (.rt (.and (.call 7 (.cons (.var 0) .nil)) (.bi .all (.cons (.lc (.v 1) (.itr (.var 0)) .nil (.cmp .isnot (.call 12 (.cons (.var 0) (.cons (.ix (.var 1) (.k (.int 0))) .nil))) (.k .non)) [1]) .nil)))) .nil)
def d_are_sound : DD := ⟨"are_sound", top 62, N_are_sound, ["value"], ⟨1, 2, b_are_sound⟩, false⟩
def N_need_classes : List Str := ["value"]
def b_need_classes : G.S := (.seq (.ife (.not (.call 7 (.cons (.var 0) .nil))) (.seq (.raise 0 .nil) .nil) .nil) .nil)
def d_need_classes : DD := ⟨"need_classes", top 63, N_need_classes, ["value"], ⟨1, 1, b_need_classes⟩, false⟩
def N_need_sound : List Str := ["value"]
def b_need_sound : G.S := (.seq (.ife (.not (.call 13 (.cons (.var 0) .nil))) (.seq (.raise 0 .nil) .nil) .nil) .nil)
def d_need_sound : DD := ⟨"need_sound", top 64, N_need_sound, ["value"], ⟨1, 1, b_need_sound⟩, false⟩
def N_need_class : List Str := ["some", "value"]
def b_need_class : G.S := (.seq (.ife (.or (.not (.bi .isi (.cons (.var 1) (.cons (.k (.ty "str")) .nil)))) (.cmp .notin (.var 1) (.var 0))) (.seq (.raise 1 .nil) .nil) .nil) .nil)
def d_need_class : DD := ⟨"need_class", top 65, N_need_class, ["some", "value"], ⟨2, 2, b_need_class⟩, false⟩
def N_is_classes : List Str := ["value"]
def b_is_classes : G.S := (.seq (.rt (.call 7 (.cons (.var 0) .nil))) .nil)
def d_is_classes : DD := ⟨"is_classes", top 66, N_is_classes, ["value"], ⟨1, 1, b_is_classes⟩, false⟩
def N_precedence_of : List Str := ["classes", "name", "row"]
def b_precedence_of : G.S := (.seq (.expr (.call 14 (.cons (.var 0) .nil))) (.seq (.expr (.call 16 (.cons (.lc (.v 2) (.itr (.var 0)) .nil (.ix (.var 2) (.k (.int 0))) [2]) (.cons (.var 1) .nil)))) (.seq (.rt (.call 12 (.cons (.var 0) (.cons (.var 1) .nil)))) .nil)))
def d_precedence_of : DD := ⟨"precedence_of", top 67, N_precedence_of, ["classes", "name"], ⟨2, 3, b_precedence_of⟩, false⟩
def N_ring_of : List Str := ["classes", "name", "row"]
def b_ring_of : G.S := (.seq (.expr (.call 14 (.cons (.var 0) .nil))) (.seq (.expr (.call 16 (.cons (.lc (.v 2) (.itr (.var 0)) .nil (.ix (.var 2) (.k (.int 0))) [2]) (.cons (.var 1) .nil)))) (.seq (.rt .nil) .nil)))
def d_ring_of : DD := ⟨"ring_of", top 68, N_ring_of, ["classes", "name"], ⟨2, 3, b_ring_of⟩, false⟩
def N_fits_generic : List Str := ["classes", "value", "name", "order", "way", "methods", "method"]
def b_fits_generic : G.S := (.seq (.ife (.not (.call 0 (.cons (.var 1) (.cons (.k (.int 4)) (.cons (.k (.int 4)) .nil))))) (.seq (.rt (.k (.bl false))) .nil) .nil) (.seq (.asg (.cons (.v 2) (.cons (.v 3) (.cons (.v 4) (.cons (.v 5) .nil)))) (.var 1)) (.seq (.ife (.or (.not .nil) (.or (.cmp .isin (.var 2) .nil) (.or (.cmp .isin (.var 2) (.glob 5)) .nil))) (.seq (.rt (.k (.bl false))) .nil) .nil) (.seq (.ife (.or (.not .nil) (.or (.not .nil) (.not (.call 0 (.cons (.var 5) (.cons (.k (.int 0)) (.cons (.glob 6) .nil))))))) (.seq (.rt (.k (.bl false))) .nil) .nil) (.seq (.ife (.not (.bi .all (.cons (.lc (.v 6) (.itr (.var 5)) .nil .nil [6]) .nil))) (.seq (.rt (.k (.bl false))) .nil) .nil) (.seq (.rt (.cmp .eq (.lens (.lc (.v 6) (.itr (.var 5)) .nil (.sl (.var 6) .no (.itr (.k (.int 2)))) [6])) (.bi .len (.cons (.var 5) .nil)))) .nil))))))
def d_fits_generic : DD := ⟨"fits_generic", top 84, N_fits_generic, ["classes", "value"], ⟨2, 7, b_fits_generic⟩, false⟩
def N_need_generic : List Str := ["classes", "value"]
def b_need_generic : G.S := (.seq (.ife (.not (.call 20 (.cons (.var 0) (.cons (.var 1) .nil)))) (.seq (.raise 2 .nil) .nil) .nil) .nil)
def d_need_generic : DD := ⟨"need_generic", top 88, N_need_generic, ["classes", "value"], ⟨2, 2, b_need_generic⟩, false⟩
def N_is_generic : List Str := ["sound", "value"]
def b_is_generic : G.S := (.seq (.expr (.call 15 (.cons (.var 0) .nil))) (.seq (.rt (.call 20 (.cons (.var 0) (.cons (.var 1) .nil)))) .nil))
def d_is_generic : DD := ⟨"is_generic", top 89, N_is_generic, ["sound", "value"], ⟨2, 2, b_is_generic⟩, false⟩
def N_kinds_of : List Str := ["sound", "generic"]
def b_kinds_of : G.S := (.seq (.expr (.call 15 (.cons (.var 0) .nil))) (.seq (.expr (.call 21 (.cons (.var 0) (.cons (.var 1) .nil)))) (.seq (.rt .nil) .nil)))
def d_kinds_of : DD := ⟨"kinds_of", top 90, N_kinds_of, ["sound", "generic"], ⟨2, 2, b_kinds_of⟩, false⟩
def N__law_cup : List Str := ["_law_script", "_law_cell"]
def b__law_cup : G.S := (.seq (.asg (.v 1) (.bi .abs (.cons (.ix (.bin .add (.bi .list (.cons (.var 0) .nil)) (.lst (.cons (.k (.int 0)) .nil))) (.k (.int 0))) .nil))) (.seq (.rt (.mlst (.cons (.ife (.cmp .ge (.var 1) (.bin .pow (.k (.int 10)) (.k (.int 18)))) (.bin .fdiv (.var 1) (.k (.int 11))) (.k (.int 0))) (.cons (.bin .add (.bin .mod (.bi .int (.cons (.bin .add (.bin .mul (.var 1) (.k (.int 193))) (.k (.int 1201))) .nil)) (.k (.int 2077504273))) (.k (.int 89))) .nil)))) .nil))
def d__law_cup : DD := ⟨"_law_cup", top 92, N__law_cup, ["_law_script"], ⟨1, 2, b__law_cup⟩, false⟩
def N__law_roll : List Str := ["_law_cup_here", "_law_many", "_law_f", "_law_dp"]
def b__law_roll : G.S := (.seq (.ife (.cmp .gt (.ix (.var 0) (.k (.int 0))) (.k (.int 0))) (.seq (.asg (.v 2) (.bin .mod (.bi .int (.cons (.ix (.var 0) (.k (.int 0))) .nil)) (.var 1))) (.seq (.seti (.var 0) (.k (.int 0)) (.bin .fdiv (.ix (.var 0) (.k (.int 0))) (.var 1))) (.seq (.rt (.var 2)) .nil))) .nil) (.seq (.seti (.var 0) (.k (.int 1)) (.bin .mod (.bi .int (.cons (.bin .add (.bin .mul (.ix (.var 0) (.k (.int 1))) (.k (.int 30671))) (.k (.int 7919))) .nil)) (.k (.int 2147483549)))) (.seq (.asg (.v 3) (.bin .mod (.bi .int (.cons (.bin .mul (.ix (.var 0) (.k (.int 1))) (.bin .add (.ix (.var 0) (.k (.int 1))) (.k (.int 131)))) .nil)) (.k (.int 2147483587)))) (.seq (.rt (.bin .mod (.bi .int (.cons (.bin .fdiv (.var 3) (.k (.int 709))) .nil)) (.var 1))) .nil))))
def d__law_roll : DD := ⟨"_law_roll", top 93, N__law_roll, ["_law_cup_here", "_law_many"], ⟨2, 4, b__law_roll⟩, false⟩
def N__law_some : List Str := ["_law_cup_here", "_law_things"]
def b__law_some : G.S := (.seq (.rt (.ix (.var 1) (.call 25 (.cons (.var 0) (.cons (.bi .len (.cons (.var 1) .nil)) .nil))))) .nil)
def d__law_some : DD := ⟨"_law_some", top 94, N__law_some, ["_law_cup_here", "_law_things"], ⟨2, 2, b__law_some⟩, false⟩
def N__law_shuffled : List Str := ["_law_cup_here", "_law_things", "_law_left", "_law_found"]
def b__law_shuffled : G.S := (.seq (.par2 2 3 (.bi .mlist (.cons (.var 1) .nil)) (.mlst .nil)) (.seq (.whl (.cmp .ne (.var 2) (.lst .nil)) (.seq (.expr (.meth .append (.var 3) (.cons (.meth .pop (.var 2) (.cons (.call 25 (.cons (.var 0) (.cons (.bi .len (.cons (.var 2) .nil)) .nil))) .nil)) .nil))) .nil)) (.seq (.rt (.var 3)) .nil)))
def d__law_shuffled : DD := ⟨"_law_shuffled", top 95, N__law_shuffled, ["_law_cup_here", "_law_things"], ⟨2, 4, b__law_shuffled⟩, false⟩
def N__law_wild : List Str := ["_law_cup_here", "_law_many", "_law_names", "_law_found", "_law_is_wild", "_law_at", "_law_name", "_law_others", "_law_one"]
def b__law_wild : G.S := (.seq (.par2 2 3 (.sl (.lst (.cons (.k (.str [112])) (.cons (.k (.str [113])) (.cons (.k (.str [114])) (.cons (.k (.str [115])) (.cons (.k (.str [118])) (.cons (.k (.str [119])) .nil))))))) .no (.itr (.var 1))) (.mlst .nil)) (.seq (.asg (.v 4) (.cmp .eq (.call 25 (.cons (.var 0) (.cons (.k (.int 3)) .nil))) (.k (.int 0)))) (.seq (.forr (.cons (.v 5) (.cons (.v 6) .nil)) (.enum (.var 2)) (.seq (.asg (.v 7) (.ife (.var 4) (.lc (.v 8) (.itr (.var 2)) (.cons (.cmp .ne (.var 8) (.var 6)) .nil) (.var 8) [8]) (.sl (.var 2) (.itr (.bin .add (.var 5) (.k (.int 1)))) .no))) (.seq (.expr (.meth .append (.var 3) (.cons (.tup (.cons (.var 6) (.cons (.bi .tuple (.cons (.sl (.call 27 (.cons (.var 0) (.cons (.var 7) .nil))) .no (.itr (.call 26 (.cons (.var 0) (.cons (.lst (.cons (.k (.int 0)) (.cons (.k (.int 1)) (.cons (.k (.int 2)) (.cons (.k (.int 2)) (.cons (.k (.int 3)) .nil)))))) .nil))))) .nil)) .nil))) .nil))) .nil))) (.seq (.rt (.bi .htuple (.cons (.call 27 (.cons (.var 0) (.cons (.var 3) .nil))) .nil))) .nil))))
def d__law_wild : DD := ⟨"_law_wild", top 96, N__law_wild, ["_law_cup_here", "_law_many"], ⟨2, 9, b__law_wild⟩, false⟩
def N__law_bent_classes : List Str := ["_law_cup_here", "_law_classes", "_law_at", "_law_name", "_law_parents", "_law_odd", "_law_some_here", "_law_bent", "_law_more", "_law_others", "_law_one", "_law_row"]
def b__law_bent_classes : G.S := (.seq (.asg (.v 2) (.call 25 (.cons (.var 0) (.cons (.bi .len (.cons (.var 1) .nil)) .nil)))) (.seq (.asg (.cons (.v 3) (.cons (.v 4) .nil)) (.ix (.var 1) (.var 2))) (.seq (.asg (.v 5) (.lst (.cons (.k (.str [116])) (.cons (.k (.str [110, 105, 108])) (.cons (.k (.str [58, 120])) (.cons (.k (.str [111, 98, 106, 101, 99, 116])) (.cons (.k (.str [99, 111, 110, 115])) (.cons (.k (.str [43, 49])) (.cons (.k (.str [49, 50])) (.cons (.bin .mul (.k (.str [97])) (.k (.int 21))) (.cons (.bin .mul (.k (.str [97])) (.k (.int 20))) (.cons (.k (.str [65])) (.cons (.k (.str [])) (.cons (.k (.int 5)) (.cons (.k .non) (.cons (.tup (.cons (.k (.str [112])) .nil)) (.cons (.k (.bl true)) (.cons (.k (.str [42, 112, 42])) (.cons (.k (.str [45])) (.cons (.k (.str [49, 43])) (.cons (.k (.str [112])) (.cons (.k (.str [113])) .nil)))))))))))))))))))))) (.seq (.asg (.v 6) (.lst (.cons (.tup (.cons (.call 26 (.cons (.var 0) (.cons (.var 5) .nil))) (.cons (.var 4) .nil))) (.cons (.tup (.cons (.var 3) (.cons (.bin .add (.var 4) (.tup (.cons (.var 3) .nil))) .nil))) (.cons (.tup (.cons (.var 3) (.cons (.bin .add (.var 4) (.sl (.var 4) .no (.itr (.k (.int 1))))) .nil))) (.cons (.tup (.cons (.var 3) (.cons (.bin .add (.var 4) (.tup (.cons (.k (.str [122, 122])) .nil))) .nil))) .nil)))))) (.seq (.asg (.v 6) (.bin .add (.var 6) (.lst (.cons (.tup (.cons (.var 3) (.cons (.bin .add (.var 4) (.tup (.cons (.k (.str [111, 98, 106, 101, 99, 116])) .nil))) .nil))) (.cons (.tup (.cons (.var 3) (.cons (.bi .list (.cons (.var 4) .nil)) .nil))) (.cons (.tup (.cons (.var 3) (.cons (.var 4) (.cons (.k (.int 1)) .nil)))) (.cons (.tup (.cons (.var 3) .nil)) (.cons (.lst (.cons (.var 3) (.cons (.var 4) .nil))) (.cons (.var 3) (.cons (.k .non) .nil)))))))))) (.seq (.asg (.v 6) (.bin .add (.var 6) (.lst (.cons (.tup (.cons (.var 3) (.cons (.bin .add (.var 4) (.tup (.cons (.k .non) .nil))) .nil))) (.cons (.tup (.cons (.var 3) (.cons (.bin .add (.var 4) (.tup (.cons (.tup (.cons (.k (.str [112])) .nil)) .nil))) .nil))) (.cons (.tup (.cons (.var 3) (.cons (.k (.str [112])) .nil))) (.cons (.tup (.cons (.var 3) (.cons (.bin .add (.var 4) (.bi .tuple (.cons (.lc (.v 11) (.itr (.var 1)) .nil (.ix (.var 11) (.k (.int 0))) [11]) .nil))) .nil))) .nil))))))) (.seq (.asg (.v 7) (.bin .add (.bin .add (.sl (.var 1) .no (.itr (.var 2))) (.tup (.cons (.call 26 (.cons (.var 0) (.cons (.var 6) .nil))) .nil))) (.sl (.var 1) (.itr (.bin .add (.var 2) (.k (.int 1)))) .no))) (.seq (.asg (.v 8) (.bi .tuple (.cons (.lc (.v 10) (.rng (.cons (.bin .sub (.bin .sub (.k (.int 21)) (.bi .len (.cons (.var 1) .nil))) (.call 25 (.cons (.var 0) (.cons (.k (.int 2)) .nil)))) .nil)) .nil (.tup (.cons (.bin .add (.k (.str [110])) (.bi .str (.cons (.var 10) .nil))) (.cons (.tup .nil) .nil))) [10]) .nil))) (.seq (.asg (.v 9) (.lst (.cons (.var 7) (.cons (.var 7) (.cons (.var 7) (.cons (.var 7) (.cons (.var 7) (.cons (.var 7) (.cons (.var 7) (.cons (.bin .add (.var 1) (.var 8)) (.cons (.bin .add (.var 1) (.sl (.var 1) (.itr (.var 2)) (.itr (.bin .add (.var 2) (.k (.int 1)))))) (.cons (.bi .list (.cons (.var 1) .nil)) (.cons (.k .non) (.cons (.tup .nil) (.cons (.k (.str [112])) (.cons (.k (.bl true)) .nil)))))))))))))))) (.seq (.rt (.call 26 (.cons (.var 0) (.cons (.var 9) .nil)))) .nil))))))))))
def d__law_bent_classes : DD := ⟨"_law_bent_classes", top 97, N__law_bent_classes, ["_law_cup_here", "_law_classes"], ⟨2, 12, b__law_bent_classes⟩, false⟩
def N__law_is_row : List Str := ["_law_value", "_law_low", "_law_high"]
def b__law_is_row : G.S := (.seq (.rt (.and (.bi .isi (.cons (.var 0) (.cons (.k (.ty "tuple")) .nil))) (.chain .le .le (.var 1) (.bi .len (.cons (.var 0) .nil)) (.var 2)))) .nil)
def d__law_is_row : DD := ⟨"_law_is_row", top 98, N__law_is_row, ["_law_value", "_law_low", "_law_high"], ⟨3, 3, b__law_is_row⟩, false⟩
def N__law_is_name : List Str := ["_law_value", "_law_digits", "_law_told", "_law_sign"]
def b__law_is_name : G.S := (.seq (.ife (.or (.not (.bi .isi (.cons (.var 0) (.cons (.k (.ty "str")) .nil)))) (.or (.not (.chain .le .le (.k (.int 1)) (.bi .len (.cons (.var 0) .nil)) (.k (.int 20)))) (.or (.cmp .isin (.var 0) (.tup (.cons (.k (.str [110, 105, 108])) (.cons (.k (.str [116])) .nil)))) (.cmp .eq (.ix (.var 0) (.k (.int 0))) (.k (.str [58])))))) (.seq (.rt (.k (.bl false))) .nil) .nil) (.seq (.ife (.cmp .ne (.lc (.v 3) (.itr (.var 0)) (.cons (.cmp .notin (.var 3) (.k (.str [97, 98, 99, 100, 101, 102, 103, 104, 105, 106, 107, 108, 109, 110, 111, 112, 113, 114, 115, 116, 117, 118, 119, 120, 121, 122, 48, 49, 50, 51, 52, 53, 54, 55, 56, 57, 45, 42, 43, 47, 60, 62, 61, 33, 63, 38, 58]))) .nil) (.k (.int 1)) [3]) (.lst .nil)) (.seq (.rt (.k (.bl false))) .nil) .nil) (.seq (.asg (.v 1) (.ife (.cmp .isin (.ix (.var 0) (.k (.int 0))) (.k (.str [43, 45]))) (.sl (.var 0) (.itr (.k (.int 1))) .no) (.var 0))) (.seq (.asg (.v 2) (.tup (.cons (.k (.str [111, 98, 106, 101, 99, 116])) (.cons (.k (.str [115, 121, 109, 98, 111, 108])) (.cons (.k (.str [108, 105, 115, 116])) (.cons (.k (.str [110, 117, 108, 108])) (.cons (.k (.str [99, 111, 110, 115])) (.cons (.k (.str [105, 110, 116, 101, 103, 101, 114])) (.cons (.k (.str [116, 101, 120, 116])) .nil))))))))) (.seq (.rt (.and (.or (.cmp .eq (.var 1) (.k (.str []))) (.cmp .ne (.lc (.v 3) (.itr (.var 1)) (.cons (.cmp .notin (.var 3) (.k (.str [48, 49, 50, 51, 52, 53, 54, 55, 56, 57]))) .nil) (.k (.int 1)) [3]) (.lst .nil))) (.cmp .notin (.var 0) (.var 2)))) .nil)))))
def d__law_is_name : DD := ⟨"_law_is_name", top 99, N__law_is_name, ["_law_value"], ⟨1, 4, b__law_is_name⟩, false⟩
def N__law_judged : List Str := ["_law_value", "_law_names", "_law_name", "_law_parents", "_law_row", "_law_one"]
def b__law_judged : G.S := (.seq (.ife (.or (.not (.call 30 (.cons (.var 0) (.cons (.k (.int 0)) (.cons (.k (.int 20)) .nil))))) (.cmp .ne (.lc (.v 4) (.itr (.var 0)) (.cons (.not (.call 30 (.cons (.var 4) (.cons (.k (.int 2)) (.cons (.k (.int 2)) .nil))))) .nil) (.k (.int 1)) [4]) (.lst .nil))) (.seq (.rt (.k (.bl false))) .nil) .nil) (.seq (.ife (.cmp .ne (.lc (.cons (.v 2) (.cons (.v 3) .nil)) (.itr (.var 0)) (.cons (.or (.not (.call 31 (.cons (.var 2) .nil))) (.not (.call 30 (.cons (.var 3) (.cons (.k (.int 0)) (.cons (.k (.int 4)) .nil)))))) .nil) (.k (.int 1)) [2, 3]) (.lst .nil)) (.seq (.rt (.k (.bl false))) .nil) .nil) (.seq (.asg (.v 1) (.lc (.cons (.v 2) (.cons (.v 3) .nil)) (.itr (.var 0)) .nil (.var 2) [2, 3])) (.seq (.forr (.cons (.v 2) (.cons (.v 3) .nil)) (.itr (.var 0)) (.seq (.ife (.cmp .ne (.lc (.v 5) (.itr (.var 3)) (.cons (.or (.not (.bi .isi (.cons (.var 5) (.cons (.k (.ty "str")) .nil)))) (.or (.cmp .notin (.var 5) (.var 1)) (.cmp .eq (.var 5) (.var 2)))) .nil) (.k (.int 1)) [5]) (.lst .nil)) (.seq (.rt (.k (.bl false))) .nil) .nil) (.seq (.ife (.cmp .ne (.lens (.var 3)) (.bi .len (.cons (.var 3) .nil))) (.seq (.rt (.k (.bl false))) .nil) .nil) .nil))) (.seq (.rt (.cmp .eq (.lens (.var 1)) (.bi .len (.cons (.var 1) .nil)))) .nil)))))
def d__law_judged : DD := ⟨"_law_judged", top 100, N__law_judged, ["_law_value"], ⟨1, 6, b__law_judged⟩, false⟩
def N__law_above : List Str := ["_law_classes", "_law_name", "_law_found", "_law_at", "_law_one"]
def b__law_above : G.S := (.seq (.asg (.cons (.v 2) (.cons (.v 3) .nil)) (.tup (.cons (.lst (.cons (.var 1) .nil)) (.cons (.k (.int 0)) .nil)))) (.seq (.whl (.cmp .lt (.var 3) (.bi .len (.cons (.var 2) .nil))) (.seq (.asg (.v 2) (.bin .add (.var 2) (.lc (.v 4) (.itr (.ix (.bi .dict (.cons (.var 0) .nil)) (.ix (.var 2) (.var 3)))) (.cons (.cmp .notin (.var 4) (.var 2)) .nil) (.var 4) [4]))) (.seq (.asg (.v 3) (.bin .add (.var 3) (.k (.int 1)))) .nil))) (.seq (.rt (.var 2)) .nil)))
def d__law_above : DD := ⟨"_law_above", top 102, N__law_above, ["_law_classes", "_law_name"], ⟨2, 5, b__law_above⟩, false⟩
def N__law_orders : List Str := ["_law_classes", "_law_name", "_law_found", "_law_one", "_law_row", "_law_at"]
def b__law_orders : G.S := (.seq (.asg (.v 2) (.lst .nil)) (.seq (.forr (.v 3) (.itr (.call 33 (.cons (.var 0) (.cons (.var 1) .nil)))) (.seq (.asg (.v 4) (.bin .add (.lst (.cons (.var 3) .nil)) (.bi .list (.cons (.ix (.bi .dict (.cons (.var 0) .nil)) (.var 3)) .nil)))) (.seq (.asg (.v 2) (.bin .add (.var 2) (.lc (.v 5) (.rng (.cons (.bin .sub (.bi .len (.cons (.var 4) .nil)) (.k (.int 1))) .nil)) .nil (.tup (.cons (.ix (.var 4) (.var 5)) (.cons (.ix (.var 4) (.bin .add (.var 5) (.k (.int 1)))) .nil))) [5]))) .nil))) (.seq (.rt (.var 2)) .nil)))
def d__law_orders : DD := ⟨"_law_orders", top 103, N__law_orders, ["_law_classes", "_law_name"], ⟨2, 6, b__law_orders⟩, false⟩
def N__law_precedence : List Str := ["_law_classes", "_law_name", "_law_pairs", "_law_left", "_law_found", "_law_some_here", "_law_one", "_law_first", "_law_second", "_law_at", "_law_child"]
def b__law_precedence : G.S := (.seq (.asg (.cons (.v 2) (.cons (.v 3) (.cons (.v 4) .nil))) (.tup (.cons (.call 34 (.cons (.var 0) (.cons (.var 1) .nil))) (.cons (.call 33 (.cons (.var 0) (.cons (.var 1) .nil))) (.cons (.mlst .nil) .nil))))) (.seq (.whl (.cmp .ne (.var 3) (.lst .nil)) (.seq (.asg (.v 5) (.mlst .nil)) (.seq (.forr (.v 6) (.itr (.var 3)) (.seq (.ife (.cmp .eq (.lc (.cons (.v 7) (.cons (.v 8) .nil)) (.itr (.var 2)) (.cons (.and (.cmp .eq (.var 8) (.var 6)) (.cmp .isin (.var 7) (.var 3))) .nil) (.k (.int 1)) [7, 8]) (.lst .nil)) (.seq (.expr (.meth .append (.var 5) (.cons (.tup (.cons (.bi .max (.cons (.bin .add (.lst (.cons (.neg (.k (.int 1))) .nil)) (.lc (.cons (.v 9) (.cons (.v 10) .nil)) (.enum (.var 4)) (.cons (.cmp .isin (.var 6) (.ix (.bi .dict (.cons (.var 0) .nil)) (.var 10))) .nil) (.var 9) [9, 10])) .nil)) (.cons (.var 6) .nil))) .nil))) .nil) .nil) .nil)) (.seq (.ife (.cmp .eq (.var 5) (.lst .nil)) (.seq (.rt (.k .non)) .nil) .nil) (.seq (.expr (.meth .append (.var 4) (.cons (.ix (.bi .max (.cons (.var 5) .nil)) (.k (.int 1))) .nil))) (.seq (.asg (.v 3) (.lc (.v 6) (.itr (.var 3)) (.cons (.cmp .ne (.var 6) (.ix (.var 4) (.neg (.k (.int 1))))) .nil) (.var 6) [6])) .nil)))))) (.seq (.rt (.bi .tuple (.cons (.var 4) .nil))) .nil)))
def d__law_precedence : DD := ⟨"_law_precedence", top 104, N__law_precedence, ["_law_classes", "_law_name"], ⟨2, 11, b__law_precedence⟩, false⟩
def N_law : List Str := ["_law_script", "_law_cup_here", "_law_turn", "_law_classes", "_law_bent", "_law_name", "_law_due", "_law_told", "_law_other", "_law_odd", "_law_is_sound", "_law_more", "_law_some_here", "_law_at", "_law_value", "_law_row"]
def b_law : G.S := (.seq (.asg (.v 1) (.call 24 (.cons (.var 0) .nil))) (.seq (.forr (.v 2) (.rng (.cons (.k (.int 12)) .nil)) (.seq (.asg (.v 3) (.call 28 (.cons (.var 1) (.cons (.bin .add (.k (.int 1)) (.call 25 (.cons (.var 1) (.cons (.k (.int 4)) .nil)))) .nil)))) (.seq (.asg (.cons (.v 4) (.cons (.v 5) .nil)) (.tup (.cons (.call 29 (.cons (.var 1) (.cons (.var 3) .nil))) (.cons (.ix (.ix (.var 3) (.k (.int 0))) (.k (.int 0))) .nil)))) (.seq (.asg (.v 6) (.call 32 (.cons (.var 4) .nil))) (.seq (.asg (.cons (.v 7) (.cons (.v 8) .nil)) (.tup (.cons (.call 17 (.cons (.var 4) .nil)) (.cons (.call 26 (.cons (.var 1) (.cons (.lst (.cons (.var 5) (.cons (.k (.str [122, 122])) (.cons (.k .non) .nil)))) .nil))) .nil)))) (.seq (.ife (.or (.not (.bi .isi (.cons (.var 7) (.cons (.k (.ty "bool")) .nil)))) (.cmp .ne (.var 7) (.var 6))) (.seq (.rt (.k (.bl false))) .nil) .nil) (.seq (.ife (.and (.not (.var 6)) (.cmp .ne (.clo 0 (.call 18 (.cons (.var 4) (.cons (.var 8) .nil)))) (.k (.str [99, 108, 97, 115, 115, 101, 115])))) (.seq (.rt (.k (.bl false))) .nil) .nil) (.seq (.asg (.v 9) (.call 26 (.cons (.var 1) (.cons (.lst (.cons (.k (.str [122, 122])) (.cons (.k (.str [116])) (.cons (.k (.str [111, 98, 106, 101, 99, 116])) (.cons (.k .non) (.cons (.tup (.cons (.var 5) .nil)) (.cons (.k (.int 5)) (.cons (.k (.bl true)) (.cons (.k (.str [])) .nil))))))))) .nil)))) (.seq (.ife (.cmp .ne (.clo 0 (.call 19 (.cons (.var 3) (.cons (.var 9) .nil)))) (.k (.str [110, 97, 109, 101]))) (.seq (.rt (.k (.bl false))) .nil) .nil) (.seq (.ife (.cmp .ne (.clo 0 (.call 18 (.cons (.var 3) (.cons (.var 9) .nil)))) (.k (.str [110, 97, 109, 101]))) (.seq (.rt (.k (.bl false))) .nil) .nil) (.seq (.ife (.and (.not (.var 6)) (.cmp .ne (.clo 0 (.call 19 (.cons (.var 4) (.cons (.var 9) .nil)))) (.k (.str [99, 108, 97, 115, 115, 101, 115])))) (.seq (.rt (.k (.bl false))) .nil) .nil) (.seq (.asg (.v 10) (.cmp .eq (.lc (.v 15) (.itr (.var 3)) (.cons (.cmp .is (.call 35 (.cons (.var 3) (.cons (.ix (.var 15) (.k (.int 0))) .nil))) (.k .non)) .nil) (.k (.int 1)) [15]) (.lst .nil))) (.seq (.ife (.and (.not (.var 10)) (.cmp .ne (.clo 0 (.call 22 (.cons (.var 3) (.cons (.k .non) .nil)))) (.k (.str [99, 108, 97, 115, 115, 101, 115])))) (.seq (.rt (.k (.bl false))) .nil) .nil) (.seq (.ife (.and (.not (.var 10)) (.cmp .ne (.clo 0 (.call 23 (.cons (.var 3) (.cons (.k .non) .nil)))) (.k (.str [99, 108, 97, 115, 115, 101, 115])))) (.seq (.rt (.k (.bl false))) .nil) .nil) (.seq (.ife (.and (.var 10) (.cmp .isnot (.call 22 (.cons (.var 3) (.cons (.k .non) .nil))) (.k (.bl false)))) (.seq (.rt (.k (.bl false))) .nil) .nil) .nil))))))))))))))) (.seq (.asg (.v 11) (.bi .tuple (.cons (.lc (.v 13) (.rng (.cons (.k (.int 21)) .nil)) .nil (.tup (.cons (.bin .add (.k (.str [110])) (.bi .str (.cons (.var 13) .nil))) (.cons (.tup .nil) .nil))) [13]) .nil))) (.seq (.asg (.v 12) (.lst (.cons (.tup (.cons (.tup (.cons (.k (.str [112])) (.cons (.tup (.cons (.k (.str [112])) .nil)) .nil))) .nil)) (.cons (.tup (.cons (.tup (.cons (.k (.str [112])) (.cons (.tup (.cons (.k (.str [113])) (.cons (.k (.str [113])) .nil))) .nil))) (.cons (.tup (.cons (.k (.str [113])) (.cons (.tup .nil) .nil))) .nil))) (.cons (.tup (.cons (.tup (.cons (.k (.str [111, 98, 106, 101, 99, 116])) (.cons (.tup .nil) .nil))) .nil)) (.cons (.tup (.cons (.tup (.cons (.k (.str [112])) (.cons (.tup (.cons (.k (.str [111, 98, 106, 101, 99, 116])) .nil)) .nil))) .nil)) (.cons (.tup (.cons (.tup (.cons (.k (.str [112])) (.cons (.tup .nil) .nil))) (.cons (.tup (.cons (.k (.str [112])) (.cons (.tup .nil) .nil))) .nil))) (.cons (.var 11) .nil)))))))) (.seq (.ife (.cmp .ne (.lc (.v 14) (.itr (.var 12)) (.cons (.cmp .isnot (.call 17 (.cons (.var 14) .nil)) (.k (.bl false))) .nil) (.k (.int 1)) [14]) (.lst .nil)) (.seq (.rt (.k (.bl false))) .nil) .nil) (.seq (.rt (.and (.cmp .is (.call 17 (.cons (.tup .nil) .nil)) (.k (.bl true))) (.cmp .is (.call 17 (.cons (.sl (.var 11) (.itr (.k (.int 1))) .no) .nil)) (.k (.bl true))))) .nil))))))
def d_law : DD := ⟨"law", top 105, N_law, ["_law_script"], ⟨1, 16, b_law⟩, true⟩
def t__law_refusal : TD := ⟨"_law_refusal", top 101, [some [99, 108, 97, 115, 115, 101, 115], some [110, 97, 109, 101], some [103, 101, 110, 101, 114, 105, 99]]⟩
def pk : Pk := { ds := [d_is_row_of, d_is_made_of, d_is_figures, d_fits_word, d_fits_name, d_are_unlike, d_fits_parents, d_fits_classes, d_with_above, d_orders_in, d_free_in, d_next_of, d_precedence_in, d_are_sound, d_need_classes, d_need_sound, d_need_class, d_is_classes, d_precedence_of, d_ring_of, d_fits_generic, d_need_generic, d_is_generic, d_kinds_of, d__law_cup, d__law_roll, d__law_some, d__law_shuffled, d__law_wild, d__law_bent_classes, d__law_is_row, d__law_is_name, d__law_judged, d__law_above, d__law_orders, d__law_precedence, d_law], tls := [t__law_refusal], cs := [("LONGEST", .int 20), ("FIGURES", .str [48, 49, 50, 51, 52, 53, 54, 55, 56, 57]), ("SIGNS", .str [97, 98, 99, 100, 101, 102, 103, 104, 105, 106, 107, 108, 109, 110, 111, 112, 113, 114, 115, 116, 117, 118, 119, 120, 121, 122, 48, 49, 50, 51, 52, 53, 54, 55, 56, 57, 45, 42, 43, 47, 60, 62, 61, 33, 63, 38, 58]), ("TOLD", .tup [.str [116], .str [111, 98, 106, 101, 99, 116], .str [115, 121, 109, 98, 111, 108], .str [108, 105, 115, 116], .str [110, 117, 108, 108], .str [99, 111, 110, 115], .str [105, 110, 116, 101, 103, 101, 114], .str [116, 101, 120, 116]]), ("MOST", .int 20), ("CALLS", .tup [.str [99, 97, 108, 108, 45, 110, 101, 120, 116, 45, 109, 101, 116, 104, 111, 100], .str [110, 101, 120, 116, 45, 109, 101, 116, 104, 111, 100, 45, 112]]), ("METHODS", .int 6)], xs := ["InvalidClasses", "InvalidName", "InvalidGeneric"], hs := ["InvalidClasses", "InvalidName", "InvalidGeneric"], exms := [("InvalidClasses", "InvalidClasses", true), ("InvalidName", "InvalidClasses", false), ("InvalidName", "InvalidName", true), ("InvalidGeneric", "InvalidClasses", false), ("InvalidGeneric", "InvalidName", false), ("InvalidGeneric", "InvalidGeneric", true)], fuel := 1000000, lam := some "law" }
theorem c_is_row_of : DChk pk d_is_row_of := ⟨C8.fnScope_by (by decide +kernel), rfl, rfl, fun _ _ _ _ _ _ us h => match us, h with | [_, _, _], _ => rfl, by decide +kernel⟩
theorem c_is_made_of : DChk pk d_is_made_of := ⟨C8.fnScope_by (by decide +kernel), rfl, rfl, fun _ _ _ _ _ _ us h => match us, h with | [_, _], _ => rfl, by decide +kernel⟩
theorem c_is_figures : DChk pk d_is_figures := ⟨C8.fnScope_by (by decide +kernel), rfl, rfl, fun _ _ _ _ _ _ us h => match us, h with | [_], _ => rfl, by decide +kernel⟩
theorem c_fits_word : DChk pk d_fits_word := ⟨C8.fnScope_by (by decide +kernel), rfl, rfl, fun _ _ _ _ _ _ us h => match us, h with | [_], _ => rfl, by decide +kernel⟩
theorem c_fits_name : DChk pk d_fits_name := ⟨C8.fnScope_by (by decide +kernel), rfl, rfl, fun _ _ _ _ _ _ us h => match us, h with | [_], _ => rfl, by decide +kernel⟩
theorem c_are_unlike : DChk pk d_are_unlike := ⟨C8.fnScope_by (by decide +kernel), rfl, rfl, fun _ _ _ _ _ _ us h => match us, h with | [_], _ => rfl, by decide +kernel⟩
theorem c_fits_parents : DChk pk d_fits_parents := ⟨C8.fnScope_by (by decide +kernel), rfl, rfl, fun _ _ _ _ _ _ us h => match us, h with | [_, _], _ => rfl, by decide +kernel⟩
theorem c_fits_classes : DChk pk d_fits_classes := ⟨C8.fnScope_by (by decide +kernel), rfl, rfl, fun _ _ _ _ _ _ us h => match us, h with | [_], _ => rfl, by decide +kernel⟩
theorem c_with_above : DChk pk d_with_above := ⟨C8.fnScope_by (by decide +kernel), rfl, rfl, fun _ _ _ _ _ _ us h => match us, h with | [_, _], _ => rfl, by decide +kernel⟩
theorem c_orders_in : DChk pk d_orders_in := ⟨C8.fnScope_by (by decide +kernel), rfl, rfl, fun _ _ _ _ _ _ us h => match us, h with | [_, _], _ => rfl, by decide +kernel⟩
theorem c_free_in : DChk pk d_free_in := ⟨C8.fnScope_by (by decide +kernel), rfl, rfl, fun _ _ _ _ _ _ us h => match us, h with | [_, _], _ => rfl, by decide +kernel⟩
theorem c_next_of : DChk pk d_next_of := ⟨C8.fnScope_by (by decide +kernel), rfl, rfl, fun _ _ _ _ _ _ us h => match us, h with | [_, _, _], _ => rfl, by decide +kernel⟩
theorem c_precedence_in : DChk pk d_precedence_in := ⟨C8.fnScope_by (by decide +kernel), rfl, rfl, fun _ _ _ _ _ _ us h => match us, h with | [_, _], _ => rfl, by decide +kernel⟩
theorem c_are_sound : DChk pk d_are_sound := ⟨C8.fnScope_by (by decide +kernel), rfl, rfl, fun _ _ _ _ _ _ us h => match us, h with | [_], _ => rfl, by decide +kernel⟩
theorem c_need_classes : DChk pk d_need_classes := ⟨C8.fnScope_by (by decide +kernel), rfl, rfl, fun _ _ _ _ _ _ us h => match us, h with | [_], _ => rfl, by decide +kernel⟩
theorem c_need_sound : DChk pk d_need_sound := ⟨C8.fnScope_by (by decide +kernel), rfl, rfl, fun _ _ _ _ _ _ us h => match us, h with | [_], _ => rfl, by decide +kernel⟩
theorem c_need_class : DChk pk d_need_class := ⟨C8.fnScope_by (by decide +kernel), rfl, rfl, fun _ _ _ _ _ _ us h => match us, h with | [_, _], _ => rfl, by decide +kernel⟩
theorem c_is_classes : DChk pk d_is_classes := ⟨C8.fnScope_by (by decide +kernel), rfl, rfl, fun _ _ _ _ _ _ us h => match us, h with | [_], _ => rfl, by decide +kernel⟩
theorem c_precedence_of : DChk pk d_precedence_of := ⟨C8.fnScope_by (by decide +kernel), rfl, rfl, fun _ _ _ _ _ _ us h => match us, h with | [_, _], _ => rfl, by decide +kernel⟩
-- ring_of un
theorem c_ring_of : DChk pk d_ring_of := ⟨C8.fnScope_by (by decide +kernel), rfl, rfl, fun _ _ _ _ _ _ us h => match us, h with | [_, _], _ => rfl, by decide +kernel⟩
-- fits_generic un
theorem c_fits_generic : DChk pk d_fits_generic := ⟨C8.fnScope_by (by decide +kernel), rfl, rfl, fun _ _ _ _ _ _ us h => match us, h with | [_, _], _ => rfl, by decide +kernel⟩
theorem c_need_generic : DChk pk d_need_generic := ⟨C8.fnScope_by (by decide +kernel), rfl, rfl, fun _ _ _ _ _ _ us h => match us, h with | [_, _], _ => rfl, by decide +kernel⟩
theorem c_is_generic : DChk pk d_is_generic := ⟨C8.fnScope_by (by decide +kernel), rfl, rfl, fun _ _ _ _ _ _ us h => match us, h with | [_, _], _ => rfl, by decide +kernel⟩
-- kinds_of un
theorem c_kinds_of : DChk pk d_kinds_of := ⟨C8.fnScope_by (by decide +kernel), rfl, rfl, fun _ _ _ _ _ _ us h => match us, h with | [_, _], _ => rfl, by decide +kernel⟩
theorem c__law_cup : DChk pk d__law_cup := ⟨C8.fnScope_by (by decide +kernel), rfl, rfl, fun _ _ _ _ _ _ us h => match us, h with | [_], _ => rfl, by decide +kernel⟩
theorem c__law_roll : DChk pk d__law_roll := ⟨C8.fnScope_by (by decide +kernel), rfl, rfl, fun _ _ _ _ _ _ us h => match us, h with | [_, _], _ => rfl, by decide +kernel⟩
theorem c__law_some : DChk pk d__law_some := ⟨C8.fnScope_by (by decide +kernel), rfl, rfl, fun _ _ _ _ _ _ us h => match us, h with | [_, _], _ => rfl, by decide +kernel⟩
theorem c__law_shuffled : DChk pk d__law_shuffled := ⟨C8.fnScope_by (by decide +kernel), rfl, rfl, fun _ _ _ _ _ _ us h => match us, h with | [_, _], _ => rfl, by decide +kernel⟩
theorem c__law_wild : DChk pk d__law_wild := ⟨C8.fnScope_by (by decide +kernel), rfl, rfl, fun _ _ _ _ _ _ us h => match us, h with | [_, _], _ => rfl, by decide +kernel⟩
theorem c__law_bent_classes : DChk pk d__law_bent_classes := ⟨C8.fnScope_by (by decide +kernel), rfl, rfl, fun _ _ _ _ _ _ us h => match us, h with | [_, _], _ => rfl, by decide +kernel⟩
theorem c__law_is_row : DChk pk d__law_is_row := ⟨C8.fnScope_by (by decide +kernel), rfl, rfl, fun _ _ _ _ _ _ us h => match us, h with | [_, _, _], _ => rfl, by decide +kernel⟩
theorem c__law_is_name : DChk pk d__law_is_name := ⟨C8.fnScope_by (by decide +kernel), rfl, rfl, fun _ _ _ _ _ _ us h => match us, h with | [_], _ => rfl, by decide +kernel⟩
theorem c__law_judged : DChk pk d__law_judged := ⟨C8.fnScope_by (by decide +kernel), rfl, rfl, fun _ _ _ _ _ _ us h => match us, h with | [_], _ => rfl, by decide +kernel⟩
theorem c__law_above : DChk pk d__law_above := ⟨C8.fnScope_by (by decide +kernel), rfl, rfl, fun _ _ _ _ _ _ us h => match us, h with | [_, _], _ => rfl, by decide +kernel⟩
theorem c__law_orders : DChk pk d__law_orders := ⟨C8.fnScope_by (by decide +kernel), rfl, rfl, fun _ _ _ _ _ _ us h => match us, h with | [_, _], _ => rfl, by decide +kernel⟩
theorem c__law_precedence : DChk pk d__law_precedence := ⟨C8.fnScope_by (by decide +kernel), rfl, rfl, fun _ _ _ _ _ _ us h => match us, h with | [_, _], _ => rfl, by decide +kernel⟩
theorem c_law : DChk pk d_law := ⟨C8.fnScope_by (by decide +kernel), rfl, rfl, fun _ _ _ _ _ _ us h => match us, h with | [_], _ => rfl, by decide +kernel⟩
theorem ok : PkOk pk := ⟨⟨c_is_row_of, c_is_made_of, c_is_figures, c_fits_word, c_fits_name, c_are_unlike, c_fits_parents, c_fits_classes, c_with_above, c_orders_in, c_free_in, c_next_of, c_precedence_in, c_are_sound, c_need_classes, c_need_sound, c_need_class, c_is_classes, c_precedence_of, c_ring_of, c_fits_generic, c_need_generic, c_is_generic, c_kinds_of, c__law_cup, c__law_roll, c__law_some, c__law_shuffled, c__law_wild, c__law_bent_classes, c__law_is_row, c__law_is_name, c__law_judged, c__law_above, c__law_orders, c__law_precedence, c_law, trivial⟩, by decide +kernel, by
  intro d hd
  simp only [pk, List.mem_cons, List.not_mem_nil, or_false] at hd
  rcases hd with rfl | rfl | rfl | rfl | rfl | rfl | rfl | rfl | rfl | rfl | rfl | rfl | rfl | rfl | rfl | rfl | rfl | rfl | rfl | rfl | rfl | rfl | rfl | rfl | rfl | rfl | rfl | rfl | rfl | rfl | rfl | rfl | rfl | rfl | rfl | rfl | rfl <;> intro h <;> first | rfl | cases h⟩
section
variable {K : PySem.W.Frag} {h : Heap} {mg : Str → Option Value}
theorem tell__law_refusal (X : K.In h) (G : h.Ns mainGlobals mg) (c : He.SaysE pk.fa pk.fn K) (T : List (Addr × Str)) : TellK K mg (pk.cn K T) t__law_refusal.x t__law_refusal.row := by
  have ht : t__law_refusal ∈ pk.tls := by simp [pk]
  obtain ⟨oc, od, osl, kV, doc, pm, an, cdv, ct, lk, hcd⟩ := tl_fn c ht
  refine ⟨He.ga K "_law_refusal", defArgs (top 101), defBody (top 101), defScope (top 101), kV, doc, pm, cdv, ct, oc, an, od, osl, ["_law_call"], "_law_call", "", _, _, [(.ref (He.ga K "InvalidClasses"), some [99, 108, 97, 115, 115, 101, 115]), (.ref (He.ga K "InvalidName"), some [110, 97, 109, 101]), (.ref (He.ga K "InvalidGeneric"), some [103, 101, 110, 101, 114, 105, 99])], _, _, _, _, _, _, _, tl_glo X G c ht, tl_keep c ht, lk, hcd, .all (fun us h => match us, h with | [_], _ => rfl), C8.fnScope_by (by decide +kernel), rfl, .inl rfl, by decide, by decide, rfl, by decide +kernel, .ret rfl (glo_h X G c (x := "InvalidClasses") (by decide +kernel)) (by decide) (by decide +kernel) (.ret rfl (glo_h X G c (x := "InvalidName") (by decide +kernel)) (by decide) (by decide +kernel) (.ret rfl (glo_h X G c (x := "InvalidGeneric") (by decide +kernel)) (by decide) (by decide +kernel) (.nil))), fun cc t ad hr hc => ?_⟩
  simp only [t__law_refusal] at hr
  rcases cc with _ | cc
  · simp only [List.getElem?_cons_zero, Option.some.injEq] at hr
    subst hr
    have ea : ad = He.ga K "InvalidClasses" := by simpa [Pk.cn, pk] using hc.symm
    subst ea
    exact ⟨by simp only [tellOf, exm_h c (x := "InvalidClasses") (y := "InvalidClasses") (b := true) (by decide +kernel)], by unfold okS; decide +kernel⟩
  simp only [List.getElem?_cons_succ] at hr
  rcases cc with _ | cc
  · simp only [List.getElem?_cons_zero, Option.some.injEq] at hr
    subst hr
    have ea : ad = He.ga K "InvalidName" := by simpa [Pk.cn, pk] using hc.symm
    subst ea
    exact ⟨by simp only [tellOf, exm_h c (x := "InvalidName") (y := "InvalidClasses") (b := false) (by decide +kernel), exm_h c (x := "InvalidName") (y := "InvalidName") (b := true) (by decide +kernel)], by unfold okS; decide +kernel⟩
  simp only [List.getElem?_cons_succ] at hr
  rcases cc with _ | cc
  · simp only [List.getElem?_cons_zero, Option.some.injEq] at hr
    subst hr
    have ea : ad = He.ga K "InvalidGeneric" := by simpa [Pk.cn, pk] using hc.symm
    subst ea
    exact ⟨by simp only [tellOf, exm_h c (x := "InvalidGeneric") (y := "InvalidClasses") (b := false) (by decide +kernel), exm_h c (x := "InvalidGeneric") (y := "InvalidName") (b := false) (by decide +kernel), exm_h c (x := "InvalidGeneric") (y := "InvalidGeneric") (b := true) (by decide +kernel)], by unfold okS; decide +kernel⟩
  simp only [List.getElem?_cons_succ] at hr
  simp at hr
theorem tells (X : K.In h) (G : h.Ns mainGlobals mg) (c : He.SaysE pk.fa pk.fn K) (T : List (Addr × Str)) : ∀ t ∈ pk.tls, TellK K mg (pk.cn K T) t.x t.row := by
  intro t ht
  simp only [pk, List.mem_cons, List.not_mem_nil, or_false] at ht
  rcases ht with rfl
  · exact tell__law_refusal X G c T
end
end K18

set_option linter.all false
set_option autoImplicit false
/-! MP: classes, what stands above, orders, precedence rows, rings: no program in sight. -/
namespace Pr
abbrev Nam := List Nat
abbrev Cl := List (Nam × List Nam)
def par (c : Cl) (n : Nam) : List Nam := (c.lookup n).getD []
def nms (c : Cl) : List Nam := c.map (·.1)
structure Ok (c : Cl) : Prop where
  nd : (nms c).Nodup
  len : c.length ≤ 20
  pnd : ∀ r ∈ c, r.2.Nodup
  pin : ∀ r ∈ c, ∀ p ∈ r.2, p ∈ nms c
  pne : ∀ r ∈ c, r.1 ∉ r.2
  pl : ∀ r ∈ c, r.2.length ≤ 4
theorem par_mem : ∀ {c : Cl} {z : Nam}, z ∈ nms c → (z, par c z) ∈ c
  | [], z, h => by simp [nms] at h
  | (a, ps) :: r, z, h => by
    unfold par
    rw [List.lookup_cons]
    by_cases e : z = a
    · subst e; simp
    · have e2 : (z == a) = false := by simpa using e
      rw [e2]
      have h2 : z ∈ nms r := by
        simp only [nms, List.map_cons, List.mem_cons] at h
        rcases h with h | h
        · exact absurd h e
        · exact h
      exact List.mem_cons_of_mem _ (par_mem h2)
theorem nodup_len {α : Type} [DecidableEq α] : ∀ {l m : List α}, l.Nodup → (∀ x ∈ l, x ∈ m) → l.length ≤ m.length
  | [], _, _, _ => by simp
  | a :: l, m, h, s => by
    have ha : a ∈ m := s a List.mem_cons_self
    have h2 := List.nodup_cons.mp h
    have := nodup_len (l := l) (m := m.erase a) h2.2 (fun x hx => by
      have hne : x ≠ a := fun e => h2.1 (e ▸ hx)
      exact (List.mem_erase_of_ne hne).mpr (s x (List.mem_cons_of_mem _ hx)))
    rw [List.length_erase_of_mem ha] at this
    have : 0 < m.length := List.length_pos_of_mem ha
    simp only [List.length_cons]
    omega
section
variable {c : Cl} {n : Nam}
theorem row_nd (ok : Ok c) {z : Nam} (h : z ∈ nms c) : (z :: par c z).Nodup := List.nodup_cons.mpr ⟨ok.pne _ (par_mem h), ok.pnd _ (par_mem h)⟩
theorem par_in (ok : Ok c) {z x : Nam} (h : z ∈ nms c) (hx : x ∈ par c z) : x ∈ nms c := ok.pin _ (par_mem h) x hx
theorem par_len (ok : Ok c) {z : Nam} (h : z ∈ nms c) : (par c z).length ≤ 4 := ok.pl _ (par_mem h)
/-! ### what stands above -/
structure AI (c : Cl) (n : Nam) (at_ : Nat) (L : List Nam) : Prop where
  nd : L.Nodup
  hd : ∃ t, L = n :: t
  sub : ∀ x ∈ L, x ∈ nms c
  rch : ∀ x ∈ L, x = n ∨ ∃ z ∈ L, x ∈ par c z
  clo : ∀ i, i < at_ → ∀ x, L[i]? = some x → ∀ y ∈ par c x, y ∈ L
  le : at_ ≤ L.length
def abvS (c : Cl) (L : List Nam) (x : Nam) : List Nam := L ++ (par c x).filter fun y => !decide (y ∈ L)
def abvF (c : Cl) : Nat → Nat → List Nam → List Nam
  | 0, _, L => L
  | k + 1, i, L => match L[i]? with
    | none => L
    | some x => abvF c k (i + 1) (abvS c L x)
def abv (c : Cl) (n : Nam) : List Nam := abvF c 21 0 [n]
theorem AI.len {i : Nat} {L : List Nam} (ok : Ok c) (a : AI c n i L) : L.length ≤ 20 := by
  have := nodup_len a.nd a.sub
  have h2 := ok.len
  unfold nms at this
  rw [List.length_map] at this
  omega
theorem AI.start (h : n ∈ nms c) : AI c n 0 [n] := ⟨by simp, ⟨[], rfl⟩, by simpa using h, by simp, by simp, by simp⟩
theorem AI.step {i : Nat} {L : List Nam} {x : Nam} (ok : Ok c) (a : AI c n i L) (e : L[i]? = some x) : AI c n (i + 1) (abvS c L x) := by
  have hx : x ∈ L := List.mem_of_getElem? e
  have hi : i < L.length := (List.getElem?_eq_some_iff.mp e).1
  have mem : ∀ y ∈ par c x, y ∈ abvS c L x := fun y hy => by
    unfold abvS
    by_cases h : y ∈ L
    · exact List.mem_append_left _ h
    · exact List.mem_append_right _ (List.mem_filter.mpr ⟨hy, by simpa using h⟩)
  refine ⟨?_, ?_, fun y hy => ?_, fun y hy => ?_, fun j hj y hy z hz => ?_, ?_⟩
  · unfold abvS
    refine List.nodup_append.mpr ⟨a.nd, (List.nodup_cons.mp (row_nd ok (a.sub x hx))).2.filter _, fun y hy z hz q => ?_⟩
    subst q
    have := (List.mem_filter.mp hz).2
    simp [hy] at this
  · obtain ⟨t, rfl⟩ := a.hd
    exact ⟨_, rfl⟩
  · rcases List.mem_append.mp hy with h | h
    · exact a.sub y h
    · exact par_in ok (a.sub x hx) (List.mem_filter.mp h).1
  · rcases List.mem_append.mp hy with h | h
    · rcases a.rch y h with q | ⟨z, q1, q2⟩
      · exact .inl q
      · exact .inr ⟨z, List.mem_append_left _ q1, q2⟩
    · exact .inr ⟨x, List.mem_append_left _ hx, (List.mem_filter.mp h).1⟩
  · have hjl : j < L.length := by omega
    have hy' : L[j]? = some y := by
      unfold abvS at hy
      rwa [List.getElem?_append_left hjl] at hy
    by_cases q : j = i
    · subst q
      rw [e] at hy'
      cases hy'
      exact mem z hz
    · exact List.mem_append_left _ (a.clo j (by omega) y hy' z hz)
  · unfold abvS
    rw [List.length_append]
    omega
structure Ab (c : Cl) (n : Nam) (L : List Nam) : Prop where
  nd : L.Nodup
  hd : ∃ t, L = n :: t
  sub : ∀ x ∈ L, x ∈ nms c
  rch : ∀ x ∈ L, x = n ∨ ∃ z ∈ L, x ∈ par c z
  clo : ∀ x ∈ L, ∀ y ∈ par c x, y ∈ L
  len : L.length ≤ 20
theorem AI.fin (ok : Ok c) : ∀ {k i : Nat} {L : List Nam}, AI c n i L → 20 < k + i → Ab c n (abvF c k i L)
  | 0, i, L, a, h => by
    have := a.len ok
    have := a.le
    omega
  | k + 1, i, L, a, h => by
    unfold abvF
    cases e : L[i]? with
    | none =>
      have h1 : L.length ≤ i := List.getElem?_eq_none_iff.mp e
      refine ⟨a.nd, a.hd, a.sub, a.rch, fun x hx => ?_, a.len ok⟩
      obtain ⟨j, hj⟩ := List.mem_iff_getElem?.mp hx
      exact a.clo j (Nat.lt_of_lt_of_le (List.getElem?_eq_some_iff.mp hj).1 h1) x hj
    | some x => exact (a.step ok e).fin ok (by omega)
theorem abv_ok (ok : Ok c) (h : n ∈ nms c) : Ab c n (abv c n) := (AI.start h).fin ok (by omega)
/-! ### orders -/
def cons2 : List Nam → List (Nam × Nam)
  | x :: y :: r => (x, y) :: cons2 (y :: r)
  | _ => []
def ords (c : Cl) (L : List Nam) : List (Nam × Nam) := L.flatMap fun z => cons2 (z :: par c z)
theorem cons2_ix : ∀ {l : List Nam} {j : Nat} {x y : Nam}, l[j]? = some x → l[j + 1]? = some y → (x, y) ∈ cons2 l
  | [], j, x, y, h, _ => by simp at h
  | [a], j, x, y, _, h => by simp at h
  | a :: b :: r, 0, x, y, h1, h2 => by simp at h1 h2; subst h1; subst h2; simp [cons2]
  | a :: b :: r, j + 1, x, y, h1, h2 => by
    simp only [cons2]
    exact List.mem_cons_of_mem _ (cons2_ix (l := b :: r) (by simpa using h1) (by simpa using h2))
theorem cons2_at : ∀ {l : List Nam} {x y : Nam}, (x, y) ∈ cons2 l → ∃ j, l[j]? = some x ∧ l[j + 1]? = some y
  | [], _, _, h => by simp [cons2] at h
  | [a], _, _, h => by simp [cons2] at h
  | a :: b :: r, x, y, h => by
    simp only [cons2, List.mem_cons] at h
    rcases h with h | h
    · cases h; exact ⟨0, rfl, rfl⟩
    · obtain ⟨j, h1, h2⟩ := cons2_at h
      exact ⟨j + 1, by simpa using h1, by simpa using h2⟩
theorem nodup_at {l : List Nam} (h : l.Nodup) {i j : Nat} {x : Nam} (hi : l[i]? = some x) (hj : l[j]? = some x) : i = j := by
  obtain ⟨h1, e1⟩ := List.getElem?_eq_some_iff.mp hi
  obtain ⟨h2, e2⟩ := List.getElem?_eq_some_iff.mp hj
  exact (List.getElem_inj h).mp (e1.trans e2.symm)
theorem chain {l : List Nam} {S : Nam → Prop} (h : ∀ x y, (x, y) ∈ cons2 l → S y → S x) : ∀ (d : Nat) {i j : Nat} {x y : Nam}, j = i + d → l[i]? = some x → l[j]? = some y → S y → S x
  | 0, i, j, x, y, e, h1, h2, s => by
    rw [Nat.add_zero] at e
    rw [e, h1] at h2
    cases h2; exact s
  | d + 1, i, j, x, y, e, h1, h2, s => by
    subst e
    have hl : i + d < l.length := by
      have := (List.getElem?_eq_some_iff.mp h2).1
      omega
    refine chain h d (j := i + d) (y := l[i + d]) rfl h1 (List.getElem?_eq_getElem hl) (h _ y (cons2_ix (List.getElem?_eq_getElem hl) h2) s)
theorem ords_mem {L : List Nam} {p : Nam × Nam} : p ∈ ords c L ↔ ∃ z ∈ L, p ∈ cons2 (z :: par c z) := by
  unfold ords
  rw [List.mem_flatMap]
theorem ords_in {L : List Nam} (a : Ab c n L) {x y : Nam} (h : (x, y) ∈ ords c L) : x ∈ L ∧ y ∈ L := by
  obtain ⟨z, hz, h⟩ := ords_mem.mp h
  obtain ⟨j, h1, h2⟩ := cons2_at h
  have all : ∀ w ∈ z :: par c z, w ∈ L := fun w hw => by
    rcases List.mem_cons.mp hw with e | e
    · rw [e]; exact hz
    · exact a.clo z hz w e
  exact ⟨all _ (List.mem_of_getElem? h1), all _ (List.mem_of_getElem? h2)⟩
theorem ords_ne {L : List Nam} (ok : Ok c) (a : Ab c n L) {x : Nam} (h : (x, x) ∈ ords c L) : False := by
  obtain ⟨z, hz, h⟩ := ords_mem.mp h
  obtain ⟨j, h1, h2⟩ := cons2_at h
  have := nodup_at (row_nd ok (a.sub z hz)) h1 h2
  omega
/-! ### what is free -/
def free (ps : List (Nam × Nam)) (left : List Nam) : List Nam := left.filter fun y => !(ps.any fun p => p.2 == y && decide (p.1 ∈ left))
theorem free_mem {ps : List (Nam × Nam)} {left : List Nam} {y : Nam} : y ∈ free ps left ↔ y ∈ left ∧ ∀ x, (x, y) ∈ ps → x ∉ left := by
  unfold free
  rw [List.mem_filter]
  refine and_congr_right fun _ => ?_
  constructor
  · intro h x hx hl
    have : (ps.any fun p => p.2 == y && decide (p.1 ∈ left)) = true := List.any_eq_true.mpr ⟨(x, y), hx, by simp [hl]⟩
    rw [this] at h; cases h
  · intro h
    cases q : (ps.any fun p => p.2 == y && decide (p.1 ∈ left)) with
    | false => rfl
    | true =>
      obtain ⟨⟨a, b⟩, h1, h2⟩ := List.any_eq_true.mp q
      simp only [Bool.and_eq_true, beq_iff_eq, decide_eq_true_eq] at h2
      obtain ⟨rfl, h2⟩ := h2
      exact absurd h2 (h a h1)
def lci (c : Cl) : List Nam → Nam → Int
  | [], _ => -1
  | ch :: r, x => if x ∈ par c ch then (r.length : Int) else lci c r x
def nxt (c : Cl) : List Nam → List Nam → Nam → Nam
  | [], _, d => d
  | ch :: r, l, d => match l.find? (fun x => decide (x ∈ par c ch)) with
    | some x => x
    | none => nxt c r l d
theorem lci_lt : ∀ (rev : List Nam) (x : Nam), lci c rev x < rev.length
  | [], _ => by simp [lci]
  | ch :: r, x => by
    unfold lci
    split
    · simp only [List.length_cons]; omega
    · have := lci_lt r x
      simp only [List.length_cons]; omega
theorem lci_same : ∀ {rev : List Nam} {x y : Nam}, lci c rev x = lci c rev y → (∀ ch ∈ rev, x ∉ par c ch ∧ y ∉ par c ch) ∨ ∃ ch ∈ rev, x ∈ par c ch ∧ y ∈ par c ch
  | [], _, _, _ => .inl (by simp)
  | ch :: r, x, y, h => by
    unfold lci at h
    have l1 := lci_lt (c := c) r x
    have l2 := lci_lt (c := c) r y
    by_cases hx : x ∈ par c ch
    · by_cases hy : y ∈ par c ch
      · exact .inr ⟨ch, List.mem_cons_self, hx, hy⟩
      · rw [if_pos hx, if_neg hy] at h; omega
    · by_cases hy : y ∈ par c ch
      · rw [if_neg hx, if_pos hy] at h; omega
      · rw [if_neg hx, if_neg hy] at h
        rcases lci_same h with q | ⟨d, q1, q2⟩
        · refine .inl fun d hd => ?_
          rcases List.mem_cons.mp hd with e | e
          · rw [e]; exact ⟨hx, hy⟩
          · exact q d e
        · exact .inr ⟨d, List.mem_cons_of_mem _ q1, q2⟩
theorem nxt_best : ∀ (rev l : List Nam) (d : Nam), d ∈ l → nxt c rev l d ∈ l ∧ ∀ y ∈ l, lci c rev y ≤ lci c rev (nxt c rev l d)
  | [], l, d, h => ⟨h, fun _ _ => by simp [lci]⟩
  | ch :: r, l, d, h => by
    unfold nxt
    cases e : l.find? (fun x => decide (x ∈ par c ch)) with
    | some x =>
      have h1 := List.mem_of_find?_eq_some e
      have h2 := List.find?_some e
      simp only [decide_eq_true_eq] at h2
      refine ⟨h1, fun y hy => ?_⟩
      show lci c (ch :: r) y ≤ lci c (ch :: r) x
      have l1 := lci_lt (c := c) r y
      unfold lci
      rw [if_pos h2]
      split <;> omega
    | none =>
      have hn : ∀ y ∈ l, y ∉ par c ch := fun y hy q => by
        have := List.find?_eq_none.mp e y hy
        simp [q] at this
      obtain ⟨h1, h2⟩ := nxt_best r l d h
      refine ⟨h1, fun y hy => ?_⟩
      show lci c (ch :: r) y ≤ lci c (ch :: r) (nxt c r l d)
      unfold lci
      rw [if_neg (hn y hy), if_neg (hn _ h1)]
      exact h2 y hy
/-! ### the row of precedence -/
structure Ss (c : Cl) (n : Nam) (L left found : List Nam) : Prop where
  lsub : ∀ x ∈ left, x ∈ L
  fsub : ∀ x ∈ found, x ∈ L
  cov : ∀ x ∈ L, x ∈ left ∨ x ∈ found
  dis : ∀ x ∈ left, x ∉ found
  clo : ∀ x y, (x, y) ∈ ords c L → y ∈ found → x ∈ found
  lnd : left.Nodup
  fnd : found.Nodup
theorem Ss.start {L : List Nam} (a : Ab c n L) : Ss c n L L [] := ⟨fun _ h => h, by simp, fun _ h => .inl h, by simp, by simp, a.nd, by simp⟩
theorem Ss.before {L left found : List Nam} (a : Ab c n L) (s : Ss c n L left found) {z y : Nam} {j i : Nat} {w : Nam} (hz : z ∈ L) (hy : y ∈ free (ords c L) left) (hj : (z :: par c z)[j]? = some y) (hi : (z :: par c z)[i]? = some w) (h : i < j) : w ∈ found := by
  obtain ⟨j, rfl⟩ : ∃ k, j = k + 1 := ⟨j - 1, by omega⟩
  have hl : j < (z :: par c z).length := by
    have := (List.getElem?_eq_some_iff.mp hj).1
    omega
  have hp : ((z :: par c z)[j], y) ∈ ords c L := ords_mem.mpr ⟨z, hz, cons2_ix (List.getElem?_eq_getElem hl) hj⟩
  have hv : (z :: par c z)[j] ∈ found := by
    rcases s.cov _ (ords_in a hp).1 with q | q
    · exact absurd q ((free_mem.mp hy).2 _ hp)
    · exact q
  exact chain (l := z :: par c z) (S := fun x => x ∈ found) (fun x y h hy => s.clo x y (ords_mem.mpr ⟨z, hz, h⟩) hy) (j - i) (i := i) (j := j) (by omega) hi (List.getElem?_eq_getElem hl) hv
theorem Ss.uniq {L left found : List Nam} (a : Ab c n L) (s : Ss c n L left found) {x y : Nam} (hx : x ∈ free (ords c L) left) (hy : y ∈ free (ords c L) left) (h : lci c found.reverse x = lci c found.reverse y) : x = y := by
  have lx := (free_mem.mp hx).1
  have ly := (free_mem.mp hy).1
  rcases lci_same h with q | ⟨ch, q1, q2, q3⟩
  · have only : ∀ w, w ∈ free (ords c L) left → (∀ ch ∈ found.reverse, w ∉ par c ch) → w = n := fun w hw hq => by
      rcases a.rch w (s.lsub _ (free_mem.mp hw).1) with e | ⟨z, hz, hp⟩
      · exact e
      · obtain ⟨j, hj⟩ := List.mem_iff_getElem?.mp hp
        have := s.before a hz hw (j := j + 1) (i := 0) (w := z) (by simpa using hj) rfl (by omega)
        exact absurd hp (hq z (List.mem_reverse.mpr this))
    rw [only x hx fun ch h => (q ch h).1, only y hy fun ch h => (q ch h).2]
  · have hz := s.fsub ch (List.mem_reverse.mp q1)
    obtain ⟨i, hi⟩ := List.mem_iff_getElem?.mp q2
    obtain ⟨j, hj⟩ := List.mem_iff_getElem?.mp q3
    rcases Nat.lt_trichotomy i j with e | e | e
    · exact absurd (s.before a hz hy (j := j + 1) (i := i + 1) (w := x) (by simpa using hj) (by simpa using hi) (by omega)) (s.dis x lx)
    · subst e
      rw [hi] at hj
      exact Option.some.inj hj
    · exact absurd (s.before a hz hx (j := i + 1) (i := j + 1) (w := y) (by simpa using hi) (by simpa using hj) (by omega)) (s.dis y ly)
def drop1 (left : List Nam) (x : Nam) : List Nam := left.filter fun y => !(y == x)
theorem drop1_mem {left : List Nam} {x y : Nam} : y ∈ drop1 left x ↔ y ∈ left ∧ y ≠ x := by
  unfold drop1; rw [List.mem_filter]; simp
theorem filter_lt {α : Type} {p : α → Bool} : ∀ {l : List α} {x : α}, x ∈ l → p x = false → (l.filter p).length < l.length
  | [], _, h, _ => by simp at h
  | a :: l, x, h, hp => by
    rw [List.filter_cons]
    have hle := List.length_filter_le p l
    rcases List.mem_cons.mp h with e | e
    · subst e; rw [hp]; simp; omega
    · have := filter_lt e hp
      split <;> simp only [List.length_cons] <;> omega
theorem drop1_lt {left : List Nam} {x : Nam} (h : x ∈ left) : (drop1 left x).length < left.length := filter_lt h (by simp)
theorem Ss.step {L left found : List Nam} (a : Ab c n L) (s : Ss c n L left found) {x : Nam} (hx : x ∈ free (ords c L) left) : Ss c n L (drop1 left x) (found ++ [x]) := by
  have lx := (free_mem.mp hx).1
  refine ⟨fun y hy => s.lsub y (drop1_mem.mp hy).1, fun y hy => ?_, fun y hy => ?_, fun y hy hf => ?_, fun w y h hy => ?_, s.lnd.filter _, List.nodup_append.mpr ⟨s.fnd, by simp, fun w hw y hy e => by
    rw [List.mem_singleton.mp hy] at e
    exact s.dis x lx (e ▸ hw)⟩⟩
  · rcases List.mem_append.mp hy with h | h
    · exact s.fsub y h
    · rw [List.mem_singleton.mp h]; exact s.lsub x lx
  · rcases s.cov y hy with h | h
    · by_cases e : y = x
      · exact .inr (by rw [e]; simp)
      · exact .inl (drop1_mem.mpr ⟨h, e⟩)
    · exact .inr (List.mem_append_left _ h)
  · rcases List.mem_append.mp hf with h | h
    · exact s.dis y (drop1_mem.mp hy).1 h
    · exact (drop1_mem.mp hy).2 (List.mem_singleton.mp h)
  · rcases List.mem_append.mp hy with q | q
    · exact List.mem_append_left _ (s.clo w y h q)
    · rw [List.mem_singleton.mp q] at h
      rcases s.cov w (ords_in a h).1 with k | k
      · exact absurd k ((free_mem.mp hx).2 w h)
      · exact List.mem_append_left _ k
def precF (c : Cl) (ps : List (Nam × Nam)) : Nat → List Nam → List Nam → Option (List Nam)
  | 0, _, _ => none
  | k + 1, left, found => match left with
    | [] => some found
    | l :: ls => match free ps (l :: ls) with
      | [] => none
      | a :: r => precF c ps k (drop1 (l :: ls) (nxt c found.reverse (a :: r) a)) (found ++ [nxt c found.reverse (a :: r) a])
def prec (c : Cl) (n : Nam) : Option (List Nam) := precF c (ords c (abv c n)) 21 (abv c n) []
/-! ### rings -/
def Stuck (ps : List (Nam × Nam)) (S : List Nam) : Prop := S ≠ [] ∧ ∀ y ∈ S, ∃ x ∈ S, (x, y) ∈ ps
theorem Stuck.no {ps : List (Nam × Nam)} {S left : List Nam} (h : Stuck ps S) (hs : ∀ x ∈ S, x ∈ left) {y : Nam} (hy : y ∈ free ps left) : y ∉ S := fun q => by
  obtain ⟨x, hx, hp⟩ := h.2 y q
  exact (free_mem.mp hy).2 x hp (hs x hx)
theorem stuck_of {ps : List (Nam × Nam)} {left : List Nam} (h0 : left ≠ []) (h : free ps left = []) : Stuck ps left := by
  refine ⟨h0, fun y hy => ?_⟩
  have : ¬ y ∈ free ps left := by rw [h]; simp
  rw [free_mem] at this
  exact Classical.byContradiction fun hn => this ⟨hy, fun x hx hl => hn ⟨x, hl, hx⟩⟩
theorem prec_none {ps : List (Nam × Nam)} : ∀ {k : Nat} {left found : List Nam}, left.length < k → precF c ps k left found = none → ∃ S, Stuck ps S ∧ ∀ x ∈ S, x ∈ left
  | 0, _, _, h, _ => by omega
  | k + 1, [], _, _, h => by cases h
  | k + 1, l :: ls, found, h, e => by
    simp only [precF] at e
    split at e
    · rename_i q
      exact ⟨_, stuck_of (by simp) q, fun _ h => h⟩
    · rename_i a r q
      have hm := (nxt_best (c := c) found.reverse (a :: r) a List.mem_cons_self).1
      rw [← q] at hm
      have hl := drop1_lt (free_mem.mp hm).1
      rw [q] at hl
      obtain ⟨S, h1, h2⟩ := prec_none (by omega) e
      exact ⟨S, h1, fun x hx => (drop1_mem.mp (h2 x hx)).1⟩
theorem prec_stuck {ps : List (Nam × Nam)} {S : List Nam} (h : Stuck ps S) : ∀ {k : Nat} {left found : List Nam}, (∀ x ∈ S, x ∈ left) → precF c ps k left found = none
  | 0, _, _, _ => rfl
  | k + 1, [], _, hs => by
    obtain ⟨x, hx⟩ := List.exists_mem_of_ne_nil S h.1
    exact absurd (hs x hx) (by simp)
  | k + 1, l :: ls, found, hs => by
    simp only [precF]
    split
    · rfl
    · rename_i a r q
      have hm := (nxt_best (c := c) found.reverse (a :: r) a List.mem_cons_self).1
      have hm2 := hm
      rw [← q] at hm
      refine prec_stuck h fun x hx => drop1_mem.mpr ⟨hs x hx, fun e => ?_⟩
      have := h.no hs hm
      rw [q] at this
      exact this (e ▸ hx)
def ringL (ps : List (Nam × Nam)) : Nat → List Nam → List Nam
  | 0, left => left
  | k + 1, left => match left with
    | [] => []
    | l :: ls => match free ps (l :: ls) with
      | [] => l :: ls
      | a :: r => ringL ps k ((l :: ls).filter fun y => !decide (y ∈ a :: r))
theorem ring_stuck {ps : List (Nam × Nam)} {S : List Nam} (h : Stuck ps S) : ∀ {k : Nat} {left : List Nam}, (∀ x ∈ S, x ∈ left) → ∀ x ∈ S, x ∈ ringL ps k left
  | 0, _, hs => hs
  | k + 1, [], hs => fun x hx => absurd (hs x hx) (by simp)
  | k + 1, l :: ls, hs => by
    simp only [ringL]
    split
    · exact hs
    · rename_i a r q
      refine ring_stuck h fun x hx => List.mem_filter.mpr ⟨hs x hx, ?_⟩
      have : x ∉ a :: r := fun e => by
        rw [← q] at e
        exact h.no hs e hx
      simpa using this
theorem ring_end {ps : List (Nam × Nam)} : ∀ {k : Nat} {left : List Nam}, left.length < k → (ringL ps k left = [] ∨ Stuck ps (ringL ps k left)) ∧ (∀ x ∈ ringL ps k left, x ∈ left)
  | 0, _, h => by omega
  | k + 1, [], _ => ⟨.inl rfl, by simp [ringL]⟩
  | k + 1, l :: ls, h => by
    simp only [ringL]
    split
    · rename_i q
      exact ⟨.inr (stuck_of (by simp) q), fun _ h => h⟩
    · rename_i a r q
      have ha : a ∈ l :: ls := (free_mem.mp (by rw [q]; exact List.mem_cons_self)).1
      have hl := filter_lt (p := fun y => !decide (y ∈ a :: r)) ha (by simp)
      obtain ⟨h1, h2⟩ := ring_end (ps := ps) (k := k) (left := (l :: ls).filter fun y => !decide (y ∈ a :: r)) (by omega)
      exact ⟨h1, fun x hx => (List.mem_filter.mp (h2 x hx)).1⟩
def left_of (c : Cl) (n : Nam) : List Nam := ringL (ords c (abv c n)) 21 (abv c n)
theorem prec_ring (ok : Ok c) (h : n ∈ nms c) : (∃ l, prec c n = some l ∧ left_of c n = []) ∨ (prec c n = none ∧ Stuck (ords c (abv c n)) (left_of c n) ∧ ∀ x ∈ left_of c n, x ∈ abv c n) := by
  have a := abv_ok ok h
  have hl := a.len
  obtain ⟨r1, r2⟩ := ring_end (ps := ords c (abv c n)) (k := 21) (left := abv c n) (by omega)
  cases e : prec c n with
  | some l =>
    refine .inl ⟨l, rfl, ?_⟩
    rcases r1 with r1 | r1
    · exact r1
    · have := prec_stuck (c := c) r1 (k := 21) (found := []) r2
      unfold prec at e
      rw [this] at e; cases e
  | none =>
    refine .inr ⟨rfl, ?_, r2⟩
    obtain ⟨S, h1, h2⟩ := prec_none (by omega) e
    rcases r1 with r1 | r1
    · obtain ⟨x, hx⟩ := List.exists_mem_of_ne_nil S h1.1
      have := ring_stuck h1 (k := 21) h2 x hx
      rw [r1] at this
      exact absurd this (by simp)
    · exact r1
/-! the walk along a ring -/
def prds (ps : List (Nam × Nam)) (R : List Nam) (y : Nam) : List Nam := (ps.filter fun p => p.2 == y && decide (p.1 ∈ R)).map (·.1)
def prd (ps : List (Nam × Nam)) (R : List Nam) (y : Nam) : Nam := (prds ps R y).headD []
theorem prd_ok {ps : List (Nam × Nam)} {R : List Nam} (h : Stuck ps R) {y : Nam} (hy : y ∈ R) : (∃ t, prds ps R y = prd ps R y :: t) ∧ prd ps R y ∈ R ∧ (prd ps R y, y) ∈ ps := by
  obtain ⟨x, hx, hp⟩ := h.2 y hy
  have hm : x ∈ prds ps R y := List.mem_map.mpr ⟨(x, y), List.mem_filter.mpr ⟨hp, by simp [hx]⟩, rfl⟩
  unfold prd
  cases e : prds ps R y with
  | nil => rw [e] at hm; simp at hm
  | cons a t =>
    have ha : a ∈ prds ps R y := by rw [e]; exact List.mem_cons_self
    obtain ⟨⟨p, q⟩, h1, h2⟩ := List.mem_map.mp ha
    obtain ⟨h3, h4⟩ := List.mem_filter.mp h1
    simp only [Bool.and_eq_true, beq_iff_eq, decide_eq_true_eq] at h4
    obtain ⟨h4, h5⟩ := h4
    simp only at h2
    subst h2
    subst h4
    exact ⟨⟨t, rfl⟩, h5, h3⟩
structure WI (ps : List (Nam × Nam)) (R w : List Nam) (l : Nam) : Prop where
  nd : w.Nodup
  sub : ∀ x ∈ w, x ∈ R
  lin : l ∈ R
  pr : ∀ x y, (x, y) ∈ cons2 (w ++ [l]) → (y, x) ∈ ps
def wayF (ps : List (Nam × Nam)) (R : List Nam) : Nat → List Nam → Nam → List Nam × Nam
  | 0, w, l => (w, l)
  | k + 1, w, l => if l ∈ w then (w, l) else wayF ps R k (w ++ [l]) (prd ps R l)
theorem cons2_app : ∀ {w : List Nam} {l p x y : Nam}, (x, y) ∈ cons2 (w ++ [l] ++ [p]) → (x, y) ∈ cons2 (w ++ [l]) ∨ (x = l ∧ y = p)
  | [], l, p, x, y, h => by simp [cons2] at h; exact .inr h
  | [a], l, p, x, y, h => by
    simp [cons2] at h
    rcases h with h | h
    · exact .inl (by simp [cons2, h])
    · exact .inr h
  | a :: b :: r, l, p, x, y, h => by
    simp only [List.cons_append, cons2, List.mem_cons] at h ⊢
    rcases h with h | h
    · exact .inl (.inl h)
    · rcases cons2_app (w := b :: r) (by simpa using h) with q | q
      · exact .inl (.inr (by simpa using q))
      · exact .inr q
theorem WI.step {ps : List (Nam × Nam)} {R w : List Nam} {l : Nam} (h : Stuck ps R) (i : WI ps R w l) (hl : l ∉ w) : WI ps R (w ++ [l]) (prd ps R l) := by
  obtain ⟨_, h2, h3⟩ := prd_ok h i.lin
  refine ⟨List.nodup_append.mpr ⟨i.nd, by simp, fun x hx y hy e => ?_⟩, fun x hx => ?_, h2, fun x y hp => ?_⟩
  · rw [List.mem_singleton.mp hy] at e
    exact hl (e ▸ hx)
  · rcases List.mem_append.mp hx with q | q
    · exact i.sub x q
    · rw [List.mem_singleton.mp q]; exact i.lin
  · rcases cons2_app hp with q | ⟨rfl, rfl⟩
    · exact i.pr x y q
    · exact h3
theorem way_end {ps : List (Nam × Nam)} {R : List Nam} (h : Stuck ps R) : ∀ {k : Nat} {w : List Nam} {l : Nam}, WI ps R w l → R.length < k + w.length → WI ps R (wayF ps R k w l).1 (wayF ps R k w l).2 ∧ (wayF ps R k w l).2 ∈ (wayF ps R k w l).1
  | 0, w, l, i, hk => by
    have := nodup_len i.nd i.sub
    omega
  | k + 1, w, l, i, hk => by
    unfold wayF
    split
    · rename_i q
      exact ⟨i, q⟩
    · rename_i q
      exact way_end h (i.step h q) (by simp only [List.length_append, List.length_singleton]; omega)
def ringV (w : List Nam) (l : Nam) : List Nam := (w.drop (w.idxOf l)).reverse
structure RingOk (ps : List (Nam × Nam)) (v : List Nam) : Prop where
  nd : v.Nodup
  two : 2 ≤ v.length
  pr : ∀ j x y, v[j]? = some y → (if j = 0 then v[v.length - 1]? else v[j - 1]?) = some x → (x, y) ∈ ps
theorem ringV_ok {ps : List (Nam × Nam)} {R w : List Nam} {l : Nam} (i : WI ps R w l) (hl : l ∈ w) (hne : ∀ x, (x, x) ∉ ps) : RingOk ps (ringV w l) := by
  have hix := List.idxOf_lt_length_of_mem hl
  obtain ⟨k, hk⟩ : ∃ k, w.idxOf l = k := ⟨_, rfl⟩
  rw [hk] at hix
  have hwk : w[k]? = some l := by rw [List.getElem?_eq_getElem hix]; subst hk; simp
  have hlen : (ringV w l).length = w.length - k := by unfold ringV; simp [hk]
  have get : ∀ j, j < w.length - k → (ringV w l)[j]? = w[w.length - 1 - j]? := fun j hj => by
    unfold ringV
    rw [hk, List.getElem?_reverse (by rw [List.length_drop]; exact hj), List.getElem?_drop, List.length_drop]
    congr 1
    omega
  have hwl : ∀ j, j < w.length → (w ++ [l])[j]? = w[j]? := fun j hj => List.getElem?_append_left hj
  have hll : (w ++ [l])[w.length]? = some l := by simp
  have two : 2 ≤ w.length - k := by
    by_cases q : w.length - k = 1
    · have e : k = w.length - 1 := by omega
      have := i.pr l l (cons2_ix (j := k) (by rw [hwl k hix, hwk]) (by rw [show k + 1 = w.length from by omega]; exact hll))
      exact absurd this (hne l)
    · omega
  refine ⟨?_, by rw [hlen]; exact two, fun j x y h1 h2 => ?_⟩
  · unfold ringV
    exact List.pairwise_reverse.mpr (((List.drop_sublist _ _).nodup i.nd).imp fun h => h.symm)
  · have hj : j < w.length - k := by
      have := (List.getElem?_eq_some_iff.mp h1).1
      omega
    rw [get j hj] at h1
    by_cases q : j = 0
    · subst q
      rw [if_pos rfl, hlen, get _ (by omega), show w.length - 1 - (w.length - k - 1) = k from by omega, hwk] at h2
      cases h2
      refine i.pr y l (cons2_ix (j := w.length - 1) (by rw [hwl _ (by omega)]; exact h1) (by rw [show w.length - 1 + 1 = w.length from by omega]; exact hll))
    · rw [if_neg q, get _ (by omega)] at h2
      refine i.pr y x (cons2_ix (j := w.length - 1 - j) (by rw [hwl _ (by omega)]; exact h1) ?_)
      rw [hwl _ (by omega), show w.length - 1 - j + 1 = w.length - 1 - (j - 1) from by omega]
      exact h2
end
end Pr

set_option Elab.async false
set_option linter.all false
set_option autoImplicit false
set_option maxRecDepth 100000
set_option maxHeartbeats 4000000
namespace K18
open G Pr
abbrev sw (L : List Nam) : List W := L.map W.str
def rowW (r : Nam × List Nam) : W := .tup [.str r.1, .tup (sw r.2)]
def clsW (c : Cl) : W := .htup (c.map rowW)
def dctW (c : Cl) : W := .dct (nms c) (c.map fun r => .tup (sw r.2))
@[simp] theorem soft_cls {c : Cl} : soft (clsW c) = .tup (c.map rowW) := rfl
@[simp] theorem soft_dctW {c : Cl} : soft (dctW c) = dctW c := rfl
theorem pairs_cls : ∀ c : Cl, pairsOf (c.map rowW) = some (c.map fun r => (r.1, .tup (sw r.2)))
  | [] => rfl
  | r :: c => by
    rw [List.map_cons]
    show (pairsOf (c.map rowW)).map _ = _
    rw [pairs_cls c]
    rfl
theorem dict_cls {c : Cl} (h : (nms c).Nodup) {s : G.ST} : biop .dict [clsW c] s = some (dctW c) := by
  show (pairsOf (c.map rowW)).map dctOf = _
  rw [pairs_cls]
  have e : dictOf (c.map fun r => (r.1, W.tup (sw r.2))) = c.map fun r => (r.1, W.tup (sw r.2)) := by
    have := dictOf_nd (ps := c.map fun r => (r.1, W.tup (sw r.2))) (acc := []) (by
      rw [List.nil_append, List.map_map]
      exact h)
    simpa [bnd, G.ret, rd, opt, eS, item, seqI, seqL, ixOf, cmpop, biop, bInt, bLen, bList, bAbs, binop, big, asg, asgs, fits, line, wEq_str, wEq_int, wEq_bl, dictOf] using this
  simp only [Option.map_some, dctOf, e, dctW, nms, List.map_map]
  rfl
theorem look_cls : ∀ {c : Cl} {z : Nam}, z ∈ nms c → look z (nms c) (c.map fun r => .tup (sw r.2)) = some (.tup (sw (par c z)))
  | [], _, h => by simp [bnd, G.ret, rd, opt, eS, item, seqI, seqL, ixOf, cmpop, biop, bInt, bLen, bList, bAbs, binop, big, asg, asgs, fits, line, wEq_str, wEq_int, wEq_bl, nms] at h
  | (a, ps) :: c, z, h => by
    simp only [nms, List.map_cons, look]
    unfold par
    rw [List.lookup_cons]
    by_cases e : a = z
    · subst e; simp [bnd, G.ret, rd, opt, eS, item, seqI, seqL, ixOf, cmpop, biop, bInt, bLen, bList, bAbs, binop, big, asg, asgs, fits, line, wEq_str, wEq_int, wEq_bl]
    · have e2 : (z == a) = false := by simpa [bnd, G.ret, rd, opt, eS, item, seqI, seqL, ixOf, cmpop, biop, bInt, bLen, bList, bAbs, binop, big, asg, asgs, fits, line, wEq_str, wEq_int, wEq_bl] using fun q => e q.symm
      rw [if_neg e, e2]
      simp only [nms, List.map_cons, List.mem_cons] at h
      rcases h with h | h
      · exact absurd h.symm e
      · exact look_cls h
theorem item_cls {c : Cl} {z : Nam} {s : G.ST} (h : z ∈ nms c) : item (dctW c) (.str z) s = some (.tup (sw (par c z))) := look_cls h
theorem sw_at {L : List Nam} {i : Nat} {x : Nam} (h : L[i]? = some x) : (sw L)[i]? = some (.str x) := by
  unfold sw
  rw [List.getElem?_map, h]; rfl
theorem item_sw {L : List Nam} {i : Nat} {x : Nam} {s : G.ST} (h : L[i]? = some x) : item (.lst (sw L)) (.int i) s = some (.str x) := by
  have hi := (List.getElem?_eq_some_iff.mp h).1
  have h2 := sw_at h
  have : (i : Int) < ((sw L).length : Int) := by unfold sw; rw [List.length_map]; omega
  simp only [item, seqI, Option.bind_some, ixOf, Int.natCast_nonneg, if_true, this, Int.toNat_natCast, h2]
theorem sw_len {L : List Nam} : (sw L).length = L.length := by unfold sw; rw [List.length_map]
section
variable {c : Cl} {n : Nam}
theorem filt_in {env : Env} {it : E} {i : Nat} {call : Nat → List W → M W} {s s' : G.ST} {ps L : List Nam} (v : Nat) (hi : evI pk.pg call it env s = .ok (.row (sw ps)) s') (ho : wipes env [i] = env.set i none) (hlt : i < env.length) (hv : ∀ w, ((env.set i none).set i w)[v]? = some (some (.lst (sw L)))) (hl : ps.length ≤ line) :
    evE pk.pg call (.lc (.v i) it (.cons (.cmp .notin (.var i) (.var v)) .nil) (.var i) [i]) env s = .ok (.lst (sw (ps.filter fun y => !decide (y ∈ L)))) s' := by
  refine lc_filtL (f := W.str) hi wstr_inj (fun y _ => ⟨(env.set i none).set i (some (.str y)), by rw [ho]; simp only [asg]; rw [if_pos (by rw [List.length_set]; exact hlt)], ?_, fun _ => ?_⟩) hl
  · have hw : ((env.set i none).set i (some (W.str y)))[i]? = some (some (.str y)) := List.getElem?_set_self (by rw [List.length_set]; exact hlt)
    simp only [xB_cons, xB_nil, xE_cmp, xE_var, hw, hv]
    simp [bnd, G.ret, rd, opt, eS, item, seqI, seqL, ixOf, cmpop, biop, bInt, bLen, bList, bAbs, binop, big, asg, asgs, fits, line, wEq_str, wEq_int, wEq_bl, notin_lst, -cmpop]
    cases decide (y ∈ L) <;> rfl
  · have hw : ((env.set i none).set i (some (W.str y)))[i]? = some (some (.str y)) := List.getElem?_set_self (by rw [List.length_set]; exact hlt)
    simp only [xE_var, hw]
    rfl
theorem above_ok (ok : Ok c) (hn : n ∈ nms c) (d : Nat) (s : G.ST) : callD pk.pg (d + 1) 8 [clsW c, .str n] s = .ok (.lst (sw (abv c n))) s := by
  rw [call_eq (df := ⟨2, 6, b_with_above⟩) rfl rfl]
  have key := whl_rule (c := fun env => evE pk.pg (callD pk.pg d) (.cmp .lt (.var 4) (.bi .len (.cons (.var 3) .nil))) env) (b := fun env s => evS pk.pg (callD pk.pg d) (.seq (.asg (.v 3) (.bin .add (.var 3) (.lc (.v 5) (.itr (.ix (.var 2) (.ix (.var 3) (.var 4)))) (.cons (.cmp .notin (.var 5) (.var 3)) .nil) (.var 5) [5]))) (.seq (.asg (.v 4) (.bin .add (.var 4) (.k (.int 1)))) .nil)) env s)
    (Q := fun R => ∃ i o, R = .ok .nx [some (clsW c), some (.str n), some (dctW c), some (.lst (sw (abv c n))), some (.int i), o] s)
    (fun k env s' => s' = s ∧ ∃ (i : Nat) (L : List Nam) (o : Option W), AI c n i L ∧ 20 < k + i ∧ abvF c k i L = abv c n ∧ env = [some (clsW c), some (.str n), some (dctW c), some (.lst (sw L)), some (.int i), o])
    (fun env s ⟨_, i, L, o, a, h, _⟩ => by
      have := a.len ok
      have := a.le
      omega)
    (fun k env s' ⟨hs, i, L, o, a, hk, e, he⟩ => by
      subst hs
      subst he
      have hL := a.len ok
      cases q : L[i]? with
      | none =>
        have h1 : L.length ≤ i := List.getElem?_eq_none_iff.mp q
        have h2 : ¬ (i : Int) < L.length := by omega
        unfold abvF at e
        rw [q] at e
        simp only at e
        subst e
        refine .inl ⟨?_, i, o, rfl⟩
        simp [bnd, G.ret, rd, opt, eS, item, seqI, seqL, ixOf, cmpop, biop, bInt, bLen, bList, bAbs, binop, big, asg, asgs, fits, line, wEq_str, wEq_int, wEq_bl, sw_len, h1]
      | some x =>
        have h1 : i < L.length := (List.getElem?_eq_some_iff.mp q).1
        have hx := a.sub x (List.mem_of_getElem? q)
        have hp := par_len ok hx
        unfold abvF at e
        rw [q] at e
        refine .inr ⟨?_, .inl ⟨[some (clsW c), some (.str n), some (dctW c), some (.lst (sw (abvS c L x))), some (.int (i + 1 : Nat)), o], s', ?_, rfl, i + 1, abvS c L x, o, a.step ok q, by omega, e, rfl⟩⟩
        · simp [bnd, G.ret, rd, opt, eS, item, seqI, seqL, ixOf, cmpop, biop, bInt, bLen, bList, bAbs, binop, big, asg, asgs, fits, line, wEq_str, wEq_int, wEq_bl, sw_len, h1]
        · have hlc := filt_in (ps := par c x) (L := L) (call := callD pk.pg d) (env := [some (clsW c), some (.str n), some (dctW c), some (.lst (sw L)), some (.int i), o]) (it := .itr (.ix (.var 2) (.ix (.var 3) (.var 4)))) (i := 5) (s := s') (s' := s') 3 (by
              simp [bnd, G.ret, rd, opt, eS, item, seqI, seqL, ixOf, cmpop, biop, bInt, bLen, bList, bAbs, binop, big, asg, asgs, fits, line, wEq_str, wEq_int, wEq_bl, item_sw q, item_cls hx, srcOf, -item]
              ) rfl (by simp [bnd, G.ret, rd, opt, eS, item, seqI, seqL, ixOf, cmpop, biop, bInt, bLen, bList, bAbs, binop, big, asg, asgs, fits, line, wEq_str, wEq_int, wEq_bl]) (fun w => rfl) (by simp [bnd, G.ret, rd, opt, eS, item, seqI, seqL, ixOf, cmpop, biop, bInt, bLen, bList, bAbs, binop, big, asg, asgs, fits, line, wEq_str, wEq_int, wEq_bl]; omega)
          have hl2 : (L.length + ((par c x).filter fun y => !decide (y ∈ L)).length) ≤ 16777216 := by
            have := List.length_filter_le (fun y => !decide (y ∈ L)) (par c x)
            omega
          simp [bnd, G.ret, rd, opt, eS, item, seqI, seqL, ixOf, cmpop, biop, bInt, bLen, bList, bAbs, binop, big, asg, asgs, fits, line, wEq_str, wEq_int, wEq_bl, hlc, sw_len, hl2, abvS, sw])
    (n := pk.pg.fuel) (k := 21) (env := [some (clsW c), some (.str n), some (dctW c), some (.lst (sw [n])), some (.int (0 : Nat)), none]) (s := s) (by decide) ⟨rfl, 0, [n], none, AI.start hn, by omega, rfl, rfl⟩
  obtain ⟨i, o, key⟩ := key
  have key : evS pk.pg (callD pk.pg d) (.whl (.cmp .lt (.var 4) (.bi .len (.cons (.var 3) .nil))) (.seq (.asg (.v 3) (.bin .add (.var 3) (.lc (.v 5) (.itr (.ix (.var 2) (.ix (.var 3) (.var 4)))) (.cons (.cmp .notin (.var 5) (.var 3)) .nil) (.var 5) [5]))) (.seq (.asg (.v 4) (.bin .add (.var 4) (.k (.int 1)))) .nil))) [some (clsW c), some (.str n), some (dctW c), some (.lst [.str n]), some (.int 0), none] s = _ := evS_whl.trans key
  have hd := dict_cls (s := s) ok.nd
  simp [bnd, G.ret, rd, opt, eS, item, seqI, seqL, ixOf, cmpop, biop, bInt, bLen, bList, bAbs, binop, big, asg, asgs, fits, line, wEq_str, wEq_int, wEq_bl, b_with_above, hd, -biop, key]
theorem above2_ok (ok : Ok c) (hn : n ∈ nms c) (d : Nat) (s : G.ST) : callD pk.pg (d + 1) 33 [clsW c, .str n] s = .ok (.lst (sw (abv c n))) s := by
  rw [call_eq (df := ⟨2, 5, b__law_above⟩) rfl rfl]
  have key := whl_rule (c := fun env => evE pk.pg (callD pk.pg d) (.cmp .lt (.var 3) (.bi .len (.cons (.var 2) .nil))) env) (b := fun env s => evS pk.pg (callD pk.pg d) (.seq (.asg (.v 2) (.bin .add (.var 2) (.lc (.v 4) (.itr (.ix (.bi .dict (.cons (.var 0) .nil)) (.ix (.var 2) (.var 3)))) (.cons (.cmp .notin (.var 4) (.var 2)) .nil) (.var 4) [4]))) (.seq (.asg (.v 3) (.bin .add (.var 3) (.k (.int 1)))) .nil)) env s)
    (Q := fun R => ∃ i o, R = .ok .nx [some (clsW c), some (.str n), some (.lst (sw (abv c n))), some (.int i), o] s)
    (fun k env s' => s' = s ∧ ∃ (i : Nat) (L : List Nam) (o : Option W), AI c n i L ∧ 20 < k + i ∧ abvF c k i L = abv c n ∧ env = [some (clsW c), some (.str n), some (.lst (sw L)), some (.int i), o])
    (fun env s ⟨_, i, L, o, a, h, _⟩ => by
      have := a.len ok
      have := a.le
      omega)
    (fun k env s' ⟨hs, i, L, o, a, hk, e, he⟩ => by
      subst hs
      subst he
      have hL := a.len ok
      cases q : L[i]? with
      | none =>
        have h1 : L.length ≤ i := List.getElem?_eq_none_iff.mp q
        have h2 : ¬ (i : Int) < L.length := by omega
        unfold abvF at e
        rw [q] at e
        simp only at e
        subst e
        refine .inl ⟨?_, i, o, rfl⟩
        simp [bnd, G.ret, rd, opt, eS, item, seqI, seqL, ixOf, cmpop, biop, bInt, bLen, bList, bAbs, binop, big, asg, asgs, fits, line, wEq_str, wEq_int, wEq_bl, sw_len, h1]
      | some x =>
        have h1 : i < L.length := (List.getElem?_eq_some_iff.mp q).1
        have hx := a.sub x (List.mem_of_getElem? q)
        have hp := par_len ok hx
        unfold abvF at e
        rw [q] at e
        refine .inr ⟨?_, .inl ⟨[some (clsW c), some (.str n), some (.lst (sw (abvS c L x))), some (.int (i + 1 : Nat)), o], s', ?_, rfl, i + 1, abvS c L x, o, a.step ok q, by omega, e, rfl⟩⟩
        · simp [bnd, G.ret, rd, opt, eS, item, seqI, seqL, ixOf, cmpop, biop, bInt, bLen, bList, bAbs, binop, big, asg, asgs, fits, line, wEq_str, wEq_int, wEq_bl, sw_len, h1]
        · have hd := dict_cls (s := s') ok.nd
          have hlc := filt_in (ps := par c x) (L := L) (call := callD pk.pg d) (env := [some (clsW c), some (.str n), some (.lst (sw L)), some (.int i), o]) (it := .itr (.ix (.bi .dict (.cons (.var 0) .nil)) (.ix (.var 2) (.var 3)))) (i := 4) (s := s') (s' := s') 2 (by
              simp [bnd, G.ret, rd, opt, eS, item, seqI, seqL, ixOf, cmpop, biop, bInt, bLen, bList, bAbs, binop, big, asg, asgs, fits, line, wEq_str, wEq_int, wEq_bl, hd, item_sw q, item_cls hx, srcOf, -item, -biop]
              ) rfl (by simp [bnd, G.ret, rd, opt, eS, item, seqI, seqL, ixOf, cmpop, biop, bInt, bLen, bList, bAbs, binop, big, asg, asgs, fits, line, wEq_str, wEq_int, wEq_bl]) (fun w => rfl) (by simp [bnd, G.ret, rd, opt, eS, item, seqI, seqL, ixOf, cmpop, biop, bInt, bLen, bList, bAbs, binop, big, asg, asgs, fits, line, wEq_str, wEq_int, wEq_bl]; omega)
          have hl2 : (L.length + ((par c x).filter fun y => !decide (y ∈ L)).length) ≤ 16777216 := by
            have := List.length_filter_le (fun y => !decide (y ∈ L)) (par c x)
            omega
          simp [bnd, G.ret, rd, opt, eS, item, seqI, seqL, ixOf, cmpop, biop, bInt, bLen, bList, bAbs, binop, big, asg, asgs, fits, line, wEq_str, wEq_int, wEq_bl, hlc, sw_len, hl2, abvS, sw])
    (n := pk.pg.fuel) (k := 21) (env := [some (clsW c), some (.str n), some (.lst (sw [n])), some (.int (0 : Nat)), none]) (s := s) (by decide) ⟨rfl, 0, [n], none, AI.start hn, by omega, rfl, rfl⟩
  obtain ⟨i, o, key⟩ := key
  have key : evS pk.pg (callD pk.pg d) (.whl (.cmp .lt (.var 3) (.bi .len (.cons (.var 2) .nil))) (.seq (.asg (.v 2) (.bin .add (.var 2) (.lc (.v 4) (.itr (.ix (.bi .dict (.cons (.var 0) .nil)) (.ix (.var 2) (.var 3)))) (.cons (.cmp .notin (.var 4) (.var 2)) .nil) (.var 4) [4]))) (.seq (.asg (.v 3) (.bin .add (.var 3) (.k (.int 1)))) .nil))) [some (clsW c), some (.str n), some (.lst [.str n]), some (.int 0), none] s = _ := evS_whl.trans key
  simp [bnd, G.ret, rd, opt, eS, item, seqI, seqL, ixOf, cmpop, biop, bInt, bLen, bList, bAbs, binop, big, asg, asgs, fits, line, wEq_str, wEq_int, wEq_bl, b__law_above, key]
end
end K18

set_option Elab.async false
set_option linter.all false
set_option autoImplicit false
set_option maxRecDepth 100000
set_option maxHeartbeats 4000000
namespace K18
open G Pr
def pw (p : Nam × Nam) : W := .tup [.str p.1, .str p.2]
abbrev pws (l : List (Nam × Nam)) : List W := l.map pw
theorem pw_inj : ∀ a b : Nam × Nam, pw a = pw b → a = b := fun ⟨a, b⟩ ⟨c, d⟩ h => by
  simp only [pw, W.tup.injEq, List.cons.injEq, W.str.injEq, and_true] at h
  rw [h.1, h.2]
theorem zip_sw : ∀ l : List Nam, zipW (sw l) (sw l).tail = pws (cons2 l)
  | [] => rfl
  | [a] => rfl
  | a :: b :: r => by
    have := zip_sw (b :: r)
    simp only [sw, List.map_cons, List.tail_cons, zipW, pws, cons2] at this ⊢
    rw [this]
    rfl
theorem cut1 {l : List W} : cut l (some 1) none = l.tail := by
  cases l with
  | nil => rfl
  | cons a l =>
    have : min (1 : Int).toNat (l.length + 1) = 1 := by
      show min 1 (l.length + 1) = 1
      omega
    simp [bnd, G.ret, rd, opt, eS, item, seqI, seqL, ixOf, cmpop, biop, bInt, bLen, bList, bAbs, binop, big, asg, asgs, fits, line, wEq_str, wEq_int, wEq_bl, cut, cutIx, this]
theorem cons2_len : ∀ l : List Nam, (cons2 l).length = l.length - 1
  | [] => rfl
  | [a] => rfl
  | a :: b :: r => by
    have := cons2_len (b :: r)
    simp only [cons2, List.length_cons] at this ⊢
    omega
theorem rng_range : ∀ (n : Nat) (lo : Int), rngW lo n = (List.range n).map fun i : Nat => W.int (lo + i)
  | 0, _ => rfl
  | n + 1, lo => by
    rw [List.range_succ_eq_map]
    simp only [rngW, List.map_cons, List.map_map, rng_range n]
    congr 1
    · simp [bnd, G.ret, rd, opt, eS, item, seqI, seqL, ixOf, cmpop, biop, bInt, bLen, bList, bAbs, binop, big, asg, asgs, fits, line, wEq_str, wEq_int, wEq_bl]
    · apply List.map_congr_left
      intro i _
      simp only [Function.comp]
      congr 1
      omega
theorem cons2_range : ∀ l : List Nam, ((List.range (l.length - 1)).map fun i => (l.getD i [], l.getD (i + 1) [])) = cons2 l
  | [] => rfl
  | [a] => rfl
  | a :: b :: r => by
    have := cons2_range (b :: r)
    simp only [List.length_cons, Nat.add_sub_cancel] at this ⊢
    rw [List.range_succ_eq_map]
    simp only [List.map_cons, List.map_map, cons2]
    rw [← this]
    rfl
section
variable {c : Cl} {n : Nam}
theorem ords_app (L : List Nam) {j : Nat} {z : Nam} (h : L[j]? = some z) : ords c (L.take (j + 1)) = ords c (L.take j) ++ cons2 (z :: par c z) := by
  unfold ords
  rw [List.take_add_one, h, List.flatMap_append]
  simp [bnd, G.ret, rd, opt, eS, item, seqI, seqL, ixOf, cmpop, biop, bInt, bLen, bList, bAbs, binop, big, asg, asgs, fits, line, wEq_str, wEq_int, wEq_bl]
theorem ords_len (ok : Ok c) : ∀ {L : List Nam}, (∀ z ∈ L, z ∈ nms c) → (ords c L).length ≤ 4 * L.length
  | [], _ => by simp [bnd, G.ret, rd, opt, eS, item, seqI, seqL, ixOf, cmpop, biop, bInt, bLen, bList, bAbs, binop, big, asg, asgs, fits, line, wEq_str, wEq_int, wEq_bl, ords]
  | z :: L, h => by
    have := ords_len ok (L := L) fun y hy => h y (List.mem_cons_of_mem _ hy)
    have hp := par_len ok (h z List.mem_cons_self)
    unfold ords at this ⊢
    rw [List.flatMap_cons, List.length_append, cons2_len]
    simp only [List.length_cons, Nat.add_sub_cancel]
    omega
theorem orders_ok (ok : Ok c) (hn : n ∈ nms c) (d : Nat) (s : G.ST) : callD pk.pg (d + 2) 9 [clsW c, .str n] s = .ok (.lst (pws (ords c (abv c n)))) s := by
  rw [call_eq (df := ⟨2, 6, b_orders_in⟩) rfl rfl]
  have hA := above_ok ok hn d s
  have a := abv_ok ok hn
  generalize abv c n = L at hA a
  have hd := dict_cls (s := s) ok.nd
  obtain ⟨env', s2, key, hs2, o, r, he⟩ := for_inv (P := pk.pg) (call := callD pk.pg (d + 1)) (env := [some (clsW c), some (.str n), some (dctW c), some (.lst []), none, none]) (t := .v 4) (it := (.itr (.call 8 (.cons (.var 0) (.cons (.var 1) .nil))))) (b := (.seq (.asg (.v 5) (.bin .add (.tup (.cons (.var 4) .nil)) (.ix (.var 2) (.var 4)))) (.seq (.asg (.v 3) (.bin .add (.var 3) (.lzip (.var 5) (.sl (.var 5) (.itr (.k (.int 1))) .no)))) .nil))) (s := s) (s' := s) (xs := sw L)
    (by simp [bnd, G.ret, rd, opt, eS, item, seqI, seqL, ixOf, cmpop, biop, bInt, bLen, bList, bAbs, binop, big, asg, asgs, fits, line, wEq_str, wEq_int, wEq_bl, hA, srcOf])
    (fun j env s' => s' = s ∧ ∃ o r, env = [some (clsW c), some (.str n), some (dctW c), some (.lst (pws (ords c (L.take j)))), o, r]) ⟨rfl, none, none, by simp [bnd, G.ret, rd, opt, eS, item, seqI, seqL, ixOf, cmpop, biop, bInt, bLen, bList, bAbs, binop, big, asg, asgs, fits, line, wEq_str, wEq_int, wEq_bl, ords]⟩
    (fun j x env s' hj ⟨hs, o, r, he⟩ => by
      subst hs
      subst he
      obtain ⟨z, hz, rfl⟩ : ∃ z, L[j]? = some z ∧ x = .str z := by
        unfold sw at hj
        rw [List.getElem?_map, Option.map_eq_some_iff] at hj
        obtain ⟨z, h1, h2⟩ := hj
        exact ⟨z, h1, h2.symm⟩
      have hzc := a.sub z (List.mem_of_getElem? hz)
      have hp := par_len ok hzc
      have h1 : 1 + (par c z).length ≤ 16777216 := by omega
      have h2 : (ords c (L.take j)).length + (cons2 (z :: par c z)).length ≤ 16777216 := by
        have q := ords_len ok (L := L.take j) fun y hy => a.sub y (List.mem_of_mem_take hy)
        have := (List.take_sublist j L).length_le
        have := a.len
        rw [cons2_len, List.length_cons]
        omega
      have hi := item_cls (s := s') hzc
      have hzip : zipW (W.str z :: sw (par c z)) (sw (par c z)) = pws (cons2 (z :: par c z)) := zip_sw (z :: par c z)
      refine ⟨[some (clsW c), some (.str n), some (dctW c), some (.lst (pws (ords c (L.take j)))), some (.str z), r], [some (clsW c), some (.str n), some (dctW c), some (.lst (pws (ords c (L.take (j + 1))))), some (.str z), some (.tup (.str z :: sw (par c z)))], s', by simp [bnd, G.ret, rd, opt, eS, item, seqI, seqL, ixOf, cmpop, biop, bInt, bLen, bList, bAbs, binop, big, asg, asgs, fits, line, wEq_str, wEq_int, wEq_bl], ?_, rfl, some (.str z), some (.tup (.str z :: sw (par c z))), rfl⟩
      have h1' : 1 + (sw (par c z)).length ≤ 16777216 := by rw [sw_len]; exact h1
      simp [bnd, G.ret, rd, opt, eS, item, seqI, seqL, ixOf, cmpop, biop, bInt, bLen, bList, bAbs, binop, big, asg, asgs, fits, line, wEq_str, wEq_int, wEq_bl, hi, -item, h1, slice, cut1, hzip, h2, ords_app L hz])
  subst hs2
  subst he
  have e : L.take (sw L).length = L := by rw [sw_len]; exact List.take_length
  rw [e] at key
  simp [bnd, G.ret, rd, opt, eS, item, seqI, seqL, ixOf, cmpop, biop, bInt, bLen, bList, bAbs, binop, big, asg, asgs, fits, line, wEq_str, wEq_int, wEq_bl, b_orders_in, hd, -biop, key]
theorem sml {k : Nat} (h : k ≤ 4) : (-small : Int) < (k : Int) ∧ (k : Int) < small := by
  have e : small = 1000000000 := rfl
  rw [e]
  constructor <;> omega
theorem rng_sw {k : Nat} (h : k ≤ 4) : rngOf [.int k] = some ((List.range k).map fun i : Nat => W.int i) := by
  have e : rngW 0 k = (List.range k).map fun i : Nat => W.int i := by
    rw [rng_range]
    apply List.map_congr_left
    intro i _
    rw [Int.zero_add]
  show (if -small < (k : Int) ∧ (k : Int) < small then some (rngW 0 (k : Int).toNat) else none) = _
  rw [if_pos (sml h), Int.toNat_natCast, e]
theorem rng_ev {P : Pg} {call : Nat → List W → M W} {env : Env} {l : E} {xs ys : List W} {s s' : G.ST} (ha : evA P call l env s = .ok xs s') (hr : rngOf xs = some ys) : evI P call (.rng l) env s = .ok (.row ys) s' := by
  rw [xI_rng]
  simp only [bnd, ha, hr, opt, ret]
theorem law_pairs {call : Nat → List W → M W} {e0 e1 e2 e3 i : Option W} (z : Nam) (ps : List Nam) (s : G.ST) (hp : ps.length ≤ 4) : evE pk.pg call (.lc (.v 5) (.rng (.cons (.bin .sub (.bi .len (.cons (.var 4) .nil)) (.k (.int 1))) .nil)) .nil (.tup (.cons (.ix (.var 4) (.var 5)) (.cons (.ix (.var 4) (.bin .add (.var 5) (.k (.int 1)))) .nil))) [5]) [e0, e1, e2, e3, some (.lst (.str z :: sw ps)), i] s = .ok (.lst (pws (cons2 (z :: ps)))) s := by
  rw [← cons2_range (z :: ps)]
  simp only [pws, List.map_map]
  refine lc_mapL (l := List.range ((z :: ps).length - 1)) (f := fun i : Nat => W.int i) ?_ (fun a b h => by injection h with h; exact Int.ofNat.inj h) (fun k hk => ?_) (by rw [List.length_range, List.length_cons]; show ps.length + 1 - 1 ≤ 16777216; omega)
  · have hr := rng_sw hp
    have ha : evA pk.pg call (.cons (.bin .sub (.bi .len (.cons (.var 4) .nil)) (.k (.int 1))) .nil) [e0, e1, e2, e3, some (.lst (.str z :: sw ps)), i] s = .ok [.int ps.length] s := by
      simp [bnd, G.ret, rd, opt, eS, item, seqI, seqL, ixOf, cmpop, biop, bInt, bLen, bList, bAbs, binop, big, asg, asgs, fits, line, wEq_str, wEq_int, wEq_bl]
    exact rng_ev ha hr
  · have hk : k < ps.length := by simpa [bnd, G.ret, rd, opt, eS, item, seqI, seqL, ixOf, cmpop, biop, bInt, bLen, bList, bAbs, binop, big, asg, asgs, fits, line, wEq_str, wEq_int, wEq_bl] using hk
    have e1 : (z :: ps)[k]? = some ((z :: ps).getD k []) := by
      rw [List.getD_eq_getElem?_getD, List.getElem?_eq_getElem (by rw [List.length_cons]; omega)]; rfl
    have e2 : (z :: ps)[k + 1]? = some ((z :: ps).getD (k + 1) []) := by
      rw [List.getD_eq_getElem?_getD, List.getElem?_eq_getElem (by rw [List.length_cons]; omega)]; rfl
    have i1 := item_sw (s := s) e1
    have i2 := item_sw (s := s) e2
    simp only [sw, List.map_cons, Int.natCast_add, Int.natCast_one] at i1 i2
    refine ⟨_, rfl, ?_⟩
    simp [bnd, G.ret, rd, opt, eS, item, seqI, seqL, ixOf, cmpop, biop, bInt, bLen, bList, bAbs, binop, big, asg, asgs, fits, line, wEq_str, wEq_int, wEq_bl, wipes, i1, i2, -item, sw, pw]
theorem orders2_ok (ok : Ok c) (hn : n ∈ nms c) (d : Nat) (s : G.ST) : callD pk.pg (d + 2) 34 [clsW c, .str n] s = .ok (.lst (pws (ords c (abv c n)))) s := by
  rw [call_eq (df := ⟨2, 6, b__law_orders⟩) rfl rfl]
  have hA := above2_ok ok hn d s
  have a := abv_ok ok hn
  generalize abv c n = L at hA a
  have hd := dict_cls (s := s) ok.nd
  obtain ⟨env', s2, key, hs2, o, r, at_, he⟩ := for_inv (P := pk.pg) (call := callD pk.pg (d + 1)) (env := [some (clsW c), some (.str n), some (.lst []), none, none, none]) (t := .v 3) (it := (.itr (.call 33 (.cons (.var 0) (.cons (.var 1) .nil))))) (b := (.seq (.asg (.v 4) (.bin .add (.lst (.cons (.var 3) .nil)) (.bi .list (.cons (.ix (.bi .dict (.cons (.var 0) .nil)) (.var 3)) .nil)))) (.seq (.asg (.v 2) (.bin .add (.var 2) (.lc (.v 5) (.rng (.cons (.bin .sub (.bi .len (.cons (.var 4) .nil)) (.k (.int 1))) .nil)) .nil (.tup (.cons (.ix (.var 4) (.var 5)) (.cons (.ix (.var 4) (.bin .add (.var 5) (.k (.int 1)))) .nil))) [5]))) .nil))) (s := s) (s' := s) (xs := sw L)
    (by simp [bnd, G.ret, rd, opt, eS, item, seqI, seqL, ixOf, cmpop, biop, bInt, bLen, bList, bAbs, binop, big, asg, asgs, fits, line, wEq_str, wEq_int, wEq_bl, hA, srcOf])
    (fun j env s' => s' = s ∧ ∃ o r i, env = [some (clsW c), some (.str n), some (.lst (pws (ords c (L.take j)))), o, r, i]) ⟨rfl, none, none, none, by simp [bnd, G.ret, rd, opt, eS, item, seqI, seqL, ixOf, cmpop, biop, bInt, bLen, bList, bAbs, binop, big, asg, asgs, fits, line, wEq_str, wEq_int, wEq_bl, ords]⟩
    (fun j x env s' hj ⟨hs, o, r, i, he⟩ => by
      subst hs
      subst he
      obtain ⟨z, hz, rfl⟩ : ∃ z, L[j]? = some z ∧ x = .str z := by
        unfold sw at hj
        rw [List.getElem?_map, Option.map_eq_some_iff] at hj
        obtain ⟨z, h1, h2⟩ := hj
        exact ⟨z, h1, h2.symm⟩
      have hzc := a.sub z (List.mem_of_getElem? hz)
      have hp := par_len ok hzc
      have h1 : 1 + (par c z).length ≤ 16777216 := by omega
      have h2 : (ords c (L.take j)).length + (cons2 (z :: par c z)).length ≤ 16777216 := by
        have q := ords_len ok (L := L.take j) fun y hy => a.sub y (List.mem_of_mem_take hy)
        have := (List.take_sublist j L).length_le
        have := a.len
        rw [cons2_len, List.length_cons]
        omega
      have hi := item_cls (s := s') hzc
      refine ⟨[some (clsW c), some (.str n), some (.lst (pws (ords c (L.take j)))), some (.str z), r, i], [some (clsW c), some (.str n), some (.lst (pws (ords c (L.take (j + 1))))), some (.str z), some (.lst (.str z :: sw (par c z))), i], s', by simp [bnd, G.ret, rd, opt, eS, item, seqI, seqL, ixOf, cmpop, biop, bInt, bLen, bList, bAbs, binop, big, asg, asgs, fits, line, wEq_str, wEq_int, wEq_bl], ?_, rfl, some (.str z), some (.lst (.str z :: sw (par c z))), i, rfl⟩
      have h1' : 1 + (sw (par c z)).length ≤ 16777216 := by rw [sw_len]; exact h1
      have hc := law_pairs (call := callD pk.pg (d + 1)) (e0 := some (clsW c)) (e1 := some (.str n)) (e2 := some (.lst (pws (ords c (L.take j))))) (e3 := some (.str z)) (i := i) z (par c z) s' hp
      have hd' : bDict s' [clsW c] = some (dctW c) := hd
      simp [bnd, G.ret, rd, opt, eS, item, seqI, seqL, ixOf, cmpop, biop, bInt, bLen, bList, bAbs, binop, big, asg, asgs, fits, line, wEq_str, wEq_int, wEq_bl, hd', hi, -item, hc, h2, ords_app L hz, h1])
  subst hs2
  subst he
  have e : L.take (sw L).length = L := by rw [sw_len]; exact List.take_length
  rw [e] at key
  simp [bnd, G.ret, rd, opt, eS, item, seqI, seqL, ixOf, cmpop, biop, bInt, bLen, bList, bAbs, binop, big, asg, asgs, fits, line, wEq_str, wEq_int, wEq_bl, b__law_orders, key]
theorem free_ok (d : Nat) (ps : List (Nam × Nam)) (left : List Nam) (s : G.ST) (hp : ps.length ≤ line) (hl : left.length ≤ line) : callD pk.pg (d + 1) 10 [.lst (pws ps), .lst (sw left)] s = .ok (.lst (sw (free ps left))) s := by
  rw [call_eq (df := ⟨2, 4, b_free_in⟩) rfl rfl]
  have hc : evE pk.pg (callD pk.pg d) (.lc (.v 2) (.itr (.var 1)) (.cons (.not (.bi .any (.cons (.lc (.v 3) (.itr (.var 0)) .nil (.and (.cmp .eq (.ix (.var 3) (.k (.int 1))) (.var 2)) (.cmp .isin (.ix (.var 3) (.k (.int 0))) (.var 1))) [3]) .nil))) .nil) (.var 2) [2]) [some (.lst (pws ps)), some (.lst (sw left)), none, none] s = .ok (.lst (sw (free ps left))) s := by
    refine lc_filtL (f := W.str) (by simp [bnd, G.ret, rd, opt, eS, item, seqI, seqL, ixOf, cmpop, biop, bInt, bLen, bList, bAbs, binop, big, asg, asgs, fits, line, wEq_str, wEq_int, wEq_bl, srcOf]) wstr_inj (fun y _ => ⟨[some (.lst (pws ps)), some (.lst (sw left)), some (.str y), none], rfl, ?_, fun _ => by simp [bnd, G.ret, rd, opt, eS, item, seqI, seqL, ixOf, cmpop, biop, bInt, bLen, bList, bAbs, binop, big, asg, asgs, fits, line, wEq_str, wEq_int, wEq_bl]⟩) hl
    have hi : evE pk.pg (callD pk.pg d) (.lc (.v 3) (.itr (.var 0)) .nil (.and (.cmp .eq (.ix (.var 3) (.k (.int 1))) (.var 2)) (.cmp .isin (.ix (.var 3) (.k (.int 0))) (.var 1))) [3]) [some (.lst (pws ps)), some (.lst (sw left)), some (.str y), none] s = .ok (.lst (ps.map fun p => .bl (p.2 == y && decide (p.1 ∈ left)))) s :=
      lc_mapL (f := pw) (by simp [bnd, G.ret, rd, opt, eS, item, seqI, seqL, ixOf, cmpop, biop, bInt, bLen, bList, bAbs, binop, big, asg, asgs, fits, line, wEq_str, wEq_int, wEq_bl, srcOf]) pw_inj (fun p _ => ⟨_, rfl, by
        cases e : p.2 == y <;> simp [bnd, G.ret, rd, opt, eS, item, seqI, seqL, ixOf, cmpop, biop, bInt, bLen, bList, bAbs, binop, big, asg, asgs, fits, line, wEq_str, wEq_int, wEq_bl, wipes, pw, e, in_lst, -cmpop, cmpop.eq_1]⟩) hp
    simp [bnd, G.ret, rd, opt, eS, item, seqI, seqL, ixOf, cmpop, biop, bInt, bLen, bList, bAbs, binop, big, asg, asgs, fits, line, wEq_str, wEq_int, wEq_bl, hi, bBools, boolsW_map, List.any_map]
    cases (ps.any fun p => p.2 == y && decide (p.1 ∈ left)) <;> rfl
  simp [bnd, G.ret, rd, opt, eS, item, seqI, seqL, ixOf, cmpop, biop, bInt, bLen, bList, bAbs, binop, big, asg, asgs, fits, line, wEq_str, wEq_int, wEq_bl, b_free_in, hc]
end
end K18

set_option Elab.async false
set_option linter.all false
set_option autoImplicit false
set_option maxRecDepth 100000
set_option maxHeartbeats 4000000
namespace G
theorem forS_rule {b : W → Env → ST → RS} {Q : RS → Prop} (Inv : List W → Env → ST → Prop) (h0 : ∀ env s, Inv [] env s → Q (.ok .nx env s))
    (hs : ∀ x xs env s, Inv (x :: xs) env s → (∃ env' s', b x env s = .ok .nx env' s' ∧ Inv xs env' s') ∨ ∃ w env' s', b x env s = .ok (.rt w) env' s' ∧ Q (.ok (.rt w) env' s')) : ∀ {xs : List W} {env : Env} {s : ST}, Inv xs env s → Q (forS b xs env s)
  | [], env, s, i => h0 env s i
  | x :: xs, env, s, i => by
    unfold forS
    rcases hs x xs env s i with ⟨env', s', e, i'⟩ | ⟨w, env', s', e, q⟩
    · simp only [e]; exact forS_rule Inv h0 hs i'
    · simp only [e]; exact q
theorem for_rule {P : Pg} {call : Nat → List W → M W} {t : T} {it : E} {b : S} {xs : List W} {env : Env} {s s' : ST} {Q : RS → Prop} (hi : evI P call it env s = .ok (.row xs) s') (Inv : List W → Env → ST → Prop) (h0 : ∀ env s, Inv [] env s → Q (.ok .nx env s))
    (hs : ∀ x xs env s, Inv (x :: xs) env s → ∃ env1, asg t x env = some env1 ∧ ((∃ env' s', evS P call b env1 s = .ok .nx env' s' ∧ Inv xs env' s') ∨ ∃ w env' s', evS P call b env1 s = .ok (.rt w) env' s' ∧ Q (.ok (.rt w) env' s'))) (i : Inv xs env s') : Q (evS P call (.forr t it b) env s) := by
  rw [evS_for]
  simp only [eS, hi, forA]
  refine forS_rule Inv h0 (fun x xs env s i => ?_) i
  obtain ⟨env1, e, h⟩ := hs x xs env s i
  simp only [stepH, e]
  exact h
end G
namespace K18
open G Pr
section
variable {c : Cl} {n : Nam}
theorem next_in (d : Nat) (ch : Nam) (hch : ch ∈ nms c) (F S : List Nam) (s : G.ST) (o : Option W) : ∃ o', evS pk.pg (callD pk.pg d) (.forr (.v 4) (.itr (.var 2)) (.seq (.ife (.cmp .isin (.var 4) (.ix (.var 0) (.var 3))) (.seq (.rt (.var 4)) .nil) .nil) .nil)) [some (dctW c), some (.lst (sw F)), some (.lst (sw S)), some (.str ch), o] s =
    match S.find? (fun x => decide (x ∈ par c ch)) with
    | some x => .ok (.rt (.str x)) [some (dctW c), some (.lst (sw F)), some (.lst (sw S)), some (.str ch), some (.str x)] s
    | none => .ok .nx [some (dctW c), some (.lst (sw F)), some (.lst (sw S)), some (.str ch), o'] s := by
  have hi := item_cls (s := s) hch
  refine for_rule (Q := fun R => ∃ o', R = match S.find? (fun x => decide (x ∈ par c ch)) with
    | some x => .ok (.rt (.str x)) [some (dctW c), some (.lst (sw F)), some (.lst (sw S)), some (.str ch), some (.str x)] s
    | none => .ok .nx [some (dctW c), some (.lst (sw F)), some (.lst (sw S)), some (.str ch), o'] s) (xs := sw S) (s' := s) (by simp [bnd, G.ret, rd, opt, eS, item, seqI, seqL, ixOf, cmpop, biop, bInt, bLen, bList, bAbs, binop, big, asg, asgs, fits, line, wEq_str, wEq_int, wEq_bl, srcOf])
    (fun xs env s' => s' = s ∧ ∃ T o, xs = sw T ∧ T.find? (fun x => decide (x ∈ par c ch)) = S.find? (fun x => decide (x ∈ par c ch)) ∧ env = [some (dctW c), some (.lst (sw F)), some (.lst (sw S)), some (.str ch), o])
    (fun env s' ⟨hs, T, o, hx, hT, he⟩ => ?_) (fun x xs env s' ⟨hs, T, o, hx, hT, he⟩ => ?_) ⟨rfl, S, o, rfl, rfl, rfl⟩
  · subst hs
    subst he
    cases T with
    | cons _ _ => cases hx
    | nil =>
      rw [List.find?_nil] at hT
      rw [← hT]
      exact ⟨o, rfl⟩
  · subst hs
    subst he
    cases T with
    | nil => cases hx
    | cons y T =>
      simp only [sw, List.map_cons, List.cons.injEq] at hx
      obtain ⟨rfl, rfl⟩ := hx
      refine ⟨[some (dctW c), some (.lst (sw F)), some (.lst (sw S)), some (.str ch), some (.str y)], by simp [bnd, G.ret, rd, opt, eS, item, seqI, seqL, ixOf, cmpop, biop, bInt, bLen, bList, bAbs, binop, big, asg, asgs, fits, line, wEq_str, wEq_int, wEq_bl], ?_⟩
      rw [List.find?_cons] at hT
      have hm := in_tup (y := y) (L := par c ch) (s := s')
      by_cases hy : y ∈ par c ch
      · simp only [hy, decide_true] at hT hm
        refine .inr ⟨.str y, [some (dctW c), some (.lst (sw F)), some (.lst (sw S)), some (.str ch), some (.str y)], s', ?_, ?_⟩
        · simp [bnd, G.ret, rd, opt, eS, item, seqI, seqL, ixOf, cmpop, biop, bInt, bLen, bList, bAbs, binop, big, asg, asgs, fits, line, wEq_str, wEq_int, wEq_bl, hi, -item, -cmpop, hm]
        · rw [← hT]
          exact ⟨o, rfl⟩
      · simp only [hy, decide_false] at hT hm
        refine .inl ⟨[some (dctW c), some (.lst (sw F)), some (.lst (sw S)), some (.str ch), some (.str y)], s', ?_, rfl, T, some (.str y), rfl, hT, rfl⟩
        simp [bnd, G.ret, rd, opt, eS, item, seqI, seqL, ixOf, cmpop, biop, bInt, bLen, bList, bAbs, binop, big, asg, asgs, fits, line, wEq_str, wEq_int, wEq_bl, hi, -item, -cmpop, hm]
theorem nxt_cons {ch : Nam} {T S : List Nam} {a : Nam} : nxt c (ch :: T) S a = match S.find? (fun x => decide (x ∈ par c ch)) with
    | some x => x
    | none => nxt c T S a := by rw [nxt] <;> rfl
theorem next_ok (d : Nat) (F : List Nam) (a : Nam) (S : List Nam) (ha : S[0]? = some a) (hF : ∀ x ∈ F, x ∈ nms c) (s : G.ST) : callD pk.pg (d + 1) 11 [dctW c, .lst (sw F), .lst (sw S)] s = .ok (.str (nxt c F.reverse S a)) s := by
  rw [call_eq (df := ⟨3, 5, b_next_of⟩) rfl rfl]
  have key := for_rule (P := pk.pg) (call := callD pk.pg d) (t := .v 3) (it := (.itr (.rev (.var 1)))) (b := (.seq (.forr (.v 4) (.itr (.var 2)) (.seq (.ife (.cmp .isin (.var 4) (.ix (.var 0) (.var 3))) (.seq (.rt (.var 4)) .nil) .nil) .nil)) .nil)) (env := [some (dctW c), some (.lst (sw F)), some (.lst (sw S)), none, none]) (s := s)
    (Q := fun R => (∃ env', R = .ok (.rt (.str (nxt c F.reverse S a))) env' s) ∨ (nxt c F.reverse S a = a ∧ ∃ o1 o2, R = .ok .nx [some (dctW c), some (.lst (sw F)), some (.lst (sw S)), o1, o2] s))
    (xs := sw F.reverse) (s' := s) (by simp [bnd, G.ret, rd, opt, eS, item, seqI, seqL, ixOf, cmpop, biop, bInt, bLen, bList, bAbs, binop, big, asg, asgs, fits, line, wEq_str, wEq_int, wEq_bl, sw, List.map_reverse, srcOf])
    (fun xs env s' => s' = s ∧ ∃ T o1 o2, xs = sw T ∧ (∀ x ∈ T, x ∈ nms c) ∧ nxt c F.reverse S a = nxt c T S a ∧ env = [some (dctW c), some (.lst (sw F)), some (.lst (sw S)), o1, o2])
    (fun env s' ⟨hs, T, o1, o2, hx, hT, hn, he⟩ => by
      subst hs
      subst he
      cases T with
      | cons _ _ => cases hx
      | nil => exact .inr ⟨hn, o1, o2, rfl⟩)
    (fun x xs env s' ⟨hs, T, o1, o2, hx, hT, hn, he⟩ => by
      subst hs
      subst he
      cases T with
      | nil => cases hx
      | cons ch T =>
        simp only [sw, List.map_cons, List.cons.injEq] at hx
        obtain ⟨rfl, rfl⟩ := hx
        refine ⟨[some (dctW c), some (.lst (sw F)), some (.lst (sw S)), some (.str ch), o2], by simp [bnd, G.ret, rd, opt, eS, item, seqI, seqL, ixOf, cmpop, biop, bInt, bLen, bList, bAbs, binop, big, asg, asgs, fits, line, wEq_str, wEq_int, wEq_bl], ?_⟩
        obtain ⟨o', e⟩ := next_in d ch (hT ch List.mem_cons_self) F S s' o2
        rw [nxt_cons] at hn
        cases q : S.find? (fun x => decide (x ∈ par c ch)) with
        | some x =>
          rw [q] at e hn
          refine .inr ⟨.str x, [some (dctW c), some (.lst (sw F)), some (.lst (sw S)), some (.str ch), some (.str x)], s', ?_, ?_⟩
          · simp only [xS_seq, e]
          · left
            rw [hn]
            exact ⟨_, rfl⟩
        | none =>
          rw [q] at e hn
          refine .inl ⟨[some (dctW c), some (.lst (sw F)), some (.lst (sw S)), some (.str ch), o'], s', ?_, rfl, T, some (.str ch), o', rfl, fun x hx => hT x (List.mem_cons_of_mem _ hx), hn, rfl⟩
          simp only [xS_seq, e, xS_nil])
    ⟨rfl, F.reverse, none, none, rfl, fun x hx => hF x (List.mem_reverse.mp hx), rfl, rfl⟩
  have h0 := item_sw (s := s) ha
  have h0 : item (.lst (sw S)) (.int 0) s = some (.str a) := h0
  rcases key with ⟨env', key⟩ | ⟨hn, o1, o2, key⟩
  · simp [bnd, G.ret, rd, opt, eS, item, seqI, seqL, ixOf, cmpop, biop, bInt, bLen, bList, bAbs, binop, big, asg, asgs, fits, line, wEq_str, wEq_int, wEq_bl, b_next_of, key]
  · rw [hn]
    simp [bnd, G.ret, rd, opt, eS, item, seqI, seqL, ixOf, cmpop, biop, bInt, bLen, bList, bAbs, binop, big, asg, asgs, fits, line, wEq_str, wEq_int, wEq_bl, b_next_of, key, h0, -item]
def optW : Option (List Nam) → W
  | none => .non
  | some l => .tup (sw l)
theorem drop_ev {call : Nat → List W → M W} {e0 e1 e2 e3 e5 e6 o : Option W} {left : List Nam} {x : Nam} {s : G.ST} (hl : left.length ≤ line) : evE pk.pg call (.lc (.v 8) (.itr (.var 4)) (.cons (.cmp .ne (.var 8) (.var 7)) .nil) (.var 8) [8]) [e0, e1, e2, e3, some (.lst (sw left)), e5, e6, some (.str x), o] s = .ok (.lst (sw (drop1 left x))) s :=
  lc_filtL (f := W.str) (by simp [bnd, G.ret, rd, opt, eS, item, seqI, seqL, ixOf, cmpop, biop, bInt, bLen, bList, bAbs, binop, big, asg, asgs, fits, line, wEq_str, wEq_int, wEq_bl, srcOf]) wstr_inj (fun y _ => ⟨[e0, e1, e2, e3, some (.lst (sw left)), e5, e6, some (.str x), some (.str y)], rfl, by
    cases q : y == x <;> simp [bnd, G.ret, rd, opt, eS, item, seqI, seqL, ixOf, cmpop, biop, bInt, bLen, bList, bAbs, binop, big, asg, asgs, fits, line, wEq_str, wEq_int, wEq_bl, q], fun _ => by simp [bnd, G.ret, rd, opt, eS, item, seqI, seqL, ixOf, cmpop, biop, bInt, bLen, bList, bAbs, binop, big, asg, asgs, fits, line, wEq_str, wEq_int, wEq_bl]⟩) hl
theorem ne_nil {l : List Nam} {s : G.ST} : cmpop .ne (.lst (sw l)) (.lst []) s = some (!(l == [])) := by
  cases l <;> simp [bnd, G.ret, rd, opt, eS, item, seqI, seqL, ixOf, cmpop, biop, bInt, bLen, bList, bAbs, binop, big, asg, asgs, fits, line, wEq_str, wEq_int, wEq_bl, wEq, deref, eqOk, eqOks, weq, weqs]
theorem eq_nil {l : List Nam} {s : G.ST} : cmpop .eq (.lst (sw l)) (.lst []) s = some (l == []) := by
  cases l <;> simp [bnd, G.ret, rd, opt, eS, item, seqI, seqL, ixOf, cmpop, biop, bInt, bLen, bList, bAbs, binop, big, asg, asgs, fits, line, wEq_str, wEq_int, wEq_bl, wEq, deref, eqOk, eqOks, weq, weqs]
theorem prec_ok (ok : Ok c) (hn : n ∈ nms c) (d : Nat) (s : G.ST) : callD pk.pg (d + 3) 12 [clsW c, .str n] s = .ok (optW (prec c n)) s := by
  rw [call_eq (df := ⟨2, 9, b_precedence_in⟩) rfl rfl]
  have hA := above_ok ok hn (d + 1) s
  have hO := orders_ok ok hn d s
  have hd := dict_cls (s := s) ok.nd
  have a := abv_ok ok hn
  unfold prec
  generalize abv c n = L at hA hO a
  have hpl : (ords c L).length ≤ line := by
    have := ords_len ok a.sub
    have := a.len
    show _ ≤ 16777216
    omega
  obtain ⟨Z, hZ⟩ : ∃ Z, precF c (ords c L) 21 L [] = Z := ⟨_, rfl⟩
  rw [hZ]
  have key := whl_rule (c := fun env => evE pk.pg (callD pk.pg (d + 2)) (.cmp .ne (.var 4) (.lst .nil)) env) (b := fun env s => evS pk.pg (callD pk.pg (d + 2)) (.seq (.asg (.v 6) (.call 10 (.cons (.var 3) (.cons (.var 4) .nil)))) (.seq (.ife (.cmp .eq (.var 6) (.lst .nil)) (.seq (.rt (.k .non)) .nil) .nil) (.seq (.asg (.v 7) (.call 11 (.cons (.var 2) (.cons (.var 5) (.cons (.var 6) .nil))))) (.seq (.par2 5 4 (.bin .add (.var 5) (.lst (.cons (.var 7) .nil))) (.lc (.v 8) (.itr (.var 4)) (.cons (.cmp .ne (.var 8) (.var 7)) .nil) (.var 8) [8])) .nil)))) env s)
    (Q := fun R => (Z = none ∧ ∃ env', R = .ok (.rt .non) env' s) ∨ ∃ l e4 e6 e7 e8, Z = some l ∧ R = .ok .nx [some (clsW c), some (.str n), some (dctW c), some (.lst (pws (ords c L))), e4, some (.lst (sw l)), e6, e7, e8] s)
    (fun k env s' => s' = s ∧ ∃ left found e6 e7 e8, Ss c n L left found ∧ left.length < k ∧ precF c (ords c L) k left found = Z ∧ env = [some (clsW c), some (.str n), some (dctW c), some (.lst (pws (ords c L))), some (.lst (sw left)), some (.lst (sw found)), e6, e7, e8])
    (fun env s ⟨_, left, found, _, _, _, _, h, _⟩ => by omega)
    (fun k env s' ⟨hs, left, found, e6, e7, e8, S, hk, e, he⟩ => by
      subst hs
      subst he
      have hll : left.length ≤ 16777216 := by
        have := nodup_len S.lnd S.lsub
        have := a.len
        omega
      cases left with
      | nil =>
        have h0 := ne_nil (l := []) (s := s')
        simp only [sw, List.map_nil] at h0
        refine .inl ⟨by simp [bnd, G.ret, rd, opt, eS, item, seqI, seqL, ixOf, cmpop, biop, bInt, bLen, bList, bAbs, binop, big, asg, asgs, fits, line, wEq_str, wEq_int, wEq_bl, h0, -cmpop], .inr ⟨found, _, e6, e7, e8, e.symm, rfl⟩⟩
      | cons l ls =>
        refine .inr ⟨?_, ?_⟩
        · have := ne_nil (l := l :: ls) (s := s')
          simp only [sw, List.map_cons] at this
          simp [bnd, G.ret, rd, opt, eS, item, seqI, seqL, ixOf, cmpop, biop, bInt, bLen, bList, bAbs, binop, big, asg, asgs, fits, line, wEq_str, wEq_int, wEq_bl, this, -cmpop]
        have hf := free_ok (d + 1) (ords c L) (l :: ls) s' hpl hll
        simp only [precF] at e
        cases q : free (ords c L) (l :: ls) with
        | nil =>
          rw [q] at e hf
          refine .inr (.inr ⟨.non, [some (clsW c), some (.str n), some (dctW c), some (.lst (pws (ords c L))), some (.lst (sw (l :: ls))), some (.lst (sw found)), some (.lst []), e7, e8], s', ?_, .inl ⟨e.symm, _, rfl⟩⟩)
          generalize l :: ls = left at hf
          simp [bnd, G.ret, rd, opt, eS, item, seqI, seqL, ixOf, cmpop, biop, bInt, bLen, bList, bAbs, binop, big, asg, asgs, fits, line, wEq_str, wEq_int, wEq_bl, hf, wEq, deref, eqOk, eqOks, weq, weqs]
        | cons x r =>
          rw [q] at e hf
          simp only at e
          have hm := (nxt_best (c := c) found.reverse (x :: r) x List.mem_cons_self).1
          have hx := next_ok (d + 1) found x (x :: r) rfl (fun y hy => a.sub y (S.fsub y hy)) s'
          generalize hg : nxt c found.reverse (x :: r) x = g at e hm hx
          rw [← q] at hm
          have hlt := drop1_lt (free_mem.mp hm).1
          have S' := S.step a hm
          have hfl : found.length + 1 ≤ 16777216 := by
            have h1 := nodup_len S.fnd S.fsub
            have := a.len
            omega
          have hne : cmpop .eq (.lst (sw (x :: r))) (.lst []) s' = some false := by
            rw [eq_nil]; rfl
          refine .inl ⟨[some (clsW c), some (.str n), some (dctW c), some (.lst (pws (ords c L))), some (.lst (sw (drop1 (l :: ls) g))), some (.lst (sw (found ++ [g]))), some (.lst (sw (x :: r))), some (.str g), e8], s', ?_, rfl, drop1 (l :: ls) g, found ++ [g], _, _, _, S', by omega, e, rfl⟩
          generalize l :: ls = left at hf hll
          generalize x :: r = fr at hf hx hne
          have hdr := drop_ev (call := callD pk.pg (d + 2)) (e0 := some (clsW c)) (e1 := some (.str n)) (e2 := some (dctW c)) (e3 := some (.lst (pws (ords c L)))) (e5 := some (.lst (sw found))) (e6 := some (.lst (sw fr))) (o := e8) (left := left) (x := g) (s := s') hll
          simp [bnd, G.ret, rd, opt, eS, item, seqI, seqL, ixOf, cmpop, biop, bInt, bLen, bList, bAbs, binop, big, asg, asgs, fits, line, wEq_str, wEq_int, wEq_bl, hf, hne, hx, -cmpop, hdr, hfl, sw])
    (n := pk.pg.fuel) (k := 21) (env := [some (clsW c), some (.str n), some (dctW c), some (.lst (pws (ords c L))), some (.lst (sw L)), some (.lst []), none, none, none]) (s := s) (by decide) ⟨rfl, L, [], none, none, none, .start a, by have := a.len; omega, hZ, rfl⟩
  rcases key with ⟨e, env', key⟩ | ⟨l, e4, e6, e7, e8, e, key⟩
  · have key := evS_whl.trans key
    rw [e]
    simp [bnd, G.ret, rd, opt, eS, item, seqI, seqL, ixOf, cmpop, biop, bInt, bLen, bList, bAbs, binop, big, asg, asgs, fits, line, wEq_str, wEq_int, wEq_bl, b_precedence_in, hd, -biop, hA, hO, key, optW]
  · have key := evS_whl.trans key
    rw [e]
    have ht : biop .tuple [.lst (sw l)] s = some (.tup (sw l)) := rfl
    simp [bnd, G.ret, rd, opt, eS, item, seqI, seqL, ixOf, cmpop, biop, bInt, bLen, bList, bAbs, binop, big, asg, asgs, fits, line, wEq_str, wEq_int, wEq_bl, b_precedence_in, hd, ht, -biop, hA, hO, key, optW]
end
end K18

set_option Elab.async false
set_option linter.all false
set_option autoImplicit false
set_option maxRecDepth 100000
set_option maxHeartbeats 4000000
namespace G
theorem compL_liveE {f : W → M (Option W)} {n : Nat} {xs : List W} {s : ST} (hs : s[n]? = some xs) {g : W → Option W} (hf : ∀ (i : Nat) (x : W), xs[i]? = some x → f (.tup [.int i, x]) s = .ok (g (.tup [.int i, x])) s) :
    ∀ (k i : Nat), xs.length < k + i → i ≤ xs.length → compL (fun i x => .tup [.int i, x]) f n k i s = .ok ((enumW i (xs.drop i)).filterMap g) s
  | 0, i, h1, h2 => by omega
  | k + 1, i, h1, h2 => by
    unfold compL
    by_cases h : i < xs.length
    · have e : xs[i]? = some xs[i] := List.getElem?_eq_getElem h
      have ih := compL_liveE hs hf k (i + 1) (by omega) (by omega)
      have hd : xs.drop i = xs[i] :: xs.drop (i + 1) := List.drop_eq_getElem_cons h
      have h3 := hf i _ e
      simp only [bnd, rd, liveAt, hs, e, h3, ih, ret]
      rw [hd]
      simp only [enumW, List.filterMap_cons]
      cases g (.tup [.int i, xs[i]]) <;> rfl
    · have e : xs[i]? = none := List.getElem?_eq_none (by omega)
      have hd : xs.drop i = [] := List.drop_eq_nil_of_le (by omega)
      simp only [bnd, rd, liveAt, hs, e, ret, hd, enumW, List.filterMap_nil]
/-- a comprehension over a list of the store, with indices -/
theorem lc_liveE {P : Pg} {call : Nat → List W → M W} {t : T} {it ifs e : E} {own : List Nat} {env : Env} {n : Nat} {xs : List W} {s s' : ST} (hi : evI P call it env s = .ok (.liveE n) s') (hs : s'[n]? = some xs) (g : W → Option W)
    (hg : ∀ i x, xs[i]? = some x → ∃ env', asg t (.tup [.int (i : Nat), x]) (wipes env own) = some env' ∧ ((g (.tup [.int (i : Nat), x]) = none ∧ evB P call ifs env' s' = .ok false s') ∨ ∃ y, g (.tup [.int (i : Nat), x]) = some y ∧ evB P call ifs env' s' = .ok true s' ∧ evE P call e env' s' = .ok y s'))
    (hf : xs.length < P.fuel) (hl : ((enumW 0 xs).filterMap g).length ≤ line) : evE P call (.lc t it ifs e own) env s = .ok (.lst ((enumW 0 xs).filterMap g)) s' := by
  have hc := compL_liveE (f := stepG P call t ifs e own env) hs (g := g) (fun i x hx => by
    obtain ⟨env', e1, h | ⟨y, h1, h2, h3⟩⟩ := hg i x hx
    · simp [bnd, G.ret, rd, opt, eS, item, seqI, seqL, ixOf, cmpop, biop, bInt, bLen, bList, bAbs, binop, big, asg, asgs, fits, line, wEq_str, wEq_int, wEq_bl, stepG, e1, bnd, h.2, ret, h.1]
    · simp [bnd, G.ret, rd, opt, eS, item, seqI, seqL, ixOf, cmpop, biop, bInt, bLen, bList, bAbs, binop, big, asg, asgs, fits, line, wEq_str, wEq_int, wEq_bl, stepG, e1, bnd, h2, h3, ret, h1]) P.fuel 0 (by omega) (by omega)
  rw [List.drop_zero] at hc
  rw [evE_lc]
  simp only [bnd, hi, noexc, fits, compS, hc]
  rw [if_pos hl]
  rfl
def pairD (i : Int) (x : List Nat) : PySem.PyData := .tuple [.int i, .str (PySem.Str.mk x.toArray)]
end G
namespace K18
open G Pr
section
variable {c : Cl} {n : Nam}
/-! the latest child, by indices -/
def idxF (c : Cl) (x : Nam) : Nat → List Nam → List Int
  | _, [] => []
  | i, ch :: r => if x ∈ par c ch then (i : Int) :: idxF c x (i + 1) r else idxF c x (i + 1) r
theorem idx_app (x : Nam) : ∀ (i : Nat) (F : List Nam) (ch : Nam), idxF c x i (F ++ [ch]) = idxF c x i F ++ (if x ∈ par c ch then [((i + F.length : Nat) : Int)] else [])
  | i, [], ch => by simp [bnd, G.ret, rd, opt, eS, item, seqI, seqL, ixOf, cmpop, biop, bInt, bLen, bList, bAbs, binop, big, asg, asgs, fits, line, wEq_str, wEq_int, wEq_bl, idxF]
  | i, a :: F, ch => by
    have := idx_app x (i + 1) F ch
    simp only [List.cons_append, idxF, this, List.length_cons]
    rw [show i + 1 + F.length = i + (F.length + 1) from by omega]
    split <;> rfl
theorem idx_len (x : Nam) : ∀ (i : Nat) (F : List Nam), (idxF c x i F).length ≤ F.length
  | i, [] => by simp [bnd, G.ret, rd, opt, eS, item, seqI, seqL, ixOf, cmpop, biop, bInt, bLen, bList, bAbs, binop, big, asg, asgs, fits, line, wEq_str, wEq_int, wEq_bl, idxF]
  | i, a :: F => by
    have := idx_len x (i + 1) F
    unfold idxF
    split <;> simp only [List.length_cons] <;> omega
theorem idx_max (x : Nam) : ∀ (R : List Nam), (idxF c x 0 R.reverse).foldl (fun a b => if a < b then b else a) (-1) = lci c R x
  | [] => rfl
  | ch :: R => by
    have ih := idx_max x R
    have hl := lci_lt (c := c) R x
    rw [List.reverse_cons, idx_app, List.foldl_append, ih]
    rw [show lci c (ch :: R) x = if x ∈ par c ch then (R.length : Int) else lci c R x from rfl]
    by_cases h : x ∈ par c ch
    · rw [if_pos h, if_pos h]
      simp only [List.foldl_cons, List.foldl_nil, List.length_reverse, Nat.zero_add]
      rw [if_pos hl]
    · rw [if_neg h, if_neg h]; rfl
theorem idx_max' (x : Nam) (F : List Nam) : lmax ((-1) :: idxF c x 0 F) = some (lci c F.reverse x) := by
  have := idx_max (c := c) x F.reverse
  rw [List.reverse_reverse] at this
  rw [← this]
  rfl
theorem ints_map : ∀ l : List Int, intsW (l.map W.int) = some l
  | [] => rfl
  | a :: l => by simp [bnd, G.ret, rd, opt, eS, item, seqI, seqL, ixOf, cmpop, biop, bInt, bLen, bList, bAbs, binop, big, asg, asgs, fits, line, wEq_str, wEq_int, wEq_bl, intsW, ints_map l]
theorem enum_idx (x : Nam) (g : W → Option W) (hg : ∀ (i : Nat) (ch : Nam), g (.tup [.int i, .str ch]) = if x ∈ par c ch then some (.int i) else none) : ∀ (i : Nat) (F : List Nam), (enumW i (sw F)).filterMap g = (idxF c x i F).map W.int
  | i, [] => rfl
  | i, ch :: F => by
    have := enum_idx x g hg (i + 1) F
    simp only [sw] at this ⊢
    simp only [List.map_cons, enumW, List.filterMap_cons, hg, idxF, this]
    by_cases h : x ∈ par c ch
    · simp only [if_pos h, List.map_cons]
    · simp only [if_neg h]
/-! the best of pairs -/
theorem lt_pair {i j : Int} {x y : Nam} (h : i ≠ j) : PySem.W.dataLt (pairD i x) (pairD j y) = decide (i < j) := by
  have ha : PySem.W.alike (.int i) (.int j) = true := by simp [bnd, G.ret, rd, opt, eS, item, seqI, seqL, ixOf, cmpop, biop, bInt, bLen, bList, bAbs, binop, big, asg, asgs, fits, line, wEq_str, wEq_int, wEq_bl, PySem.W.alike]
  have he : PySem.PyData.eqv (.int i) (.int j) = false := by simpa [bnd, G.ret, rd, opt, eS, item, seqI, seqL, ixOf, cmpop, biop, bInt, bLen, bList, bAbs, binop, big, asg, asgs, fits, line, wEq_str, wEq_int, wEq_bl, PySem.PyData.eqv] using h
  unfold pairD
  rw [PySem.W.dataLt_tuple, PySem.W.dataLt_all_no ha he, PySem.W.dataLt_int]
def hW (k : Nam → Int) (y : Nam) : W := .tup [.int (k y), .str y]
theorem toD_hW (k : Nam → Int) (y : Nam) : toD (hW k y) = some (pairD (k y) y) := by
  simp [bnd, G.ret, rd, opt, eS, item, seqI, seqL, ixOf, cmpop, biop, bInt, bLen, bList, bAbs, binop, big, asg, asgs, fits, line, wEq_str, wEq_int, wEq_bl, hW, toD, toDs, pairD]
theorem best_map (k : Nam → Int) : ∀ (r : List Nam) (x : Nam), (∀ y ∈ x :: r, ∀ z ∈ x :: r, k y = k z → y = z) → ∃ m, m ∈ x :: r ∧ bestW true (hW k x) (r.map (hW k)) = hW k m ∧ ∀ y ∈ x :: r, k y ≤ k m
  | [], x, _ => ⟨x, by simp [bnd, G.ret, rd, opt, eS, item, seqI, seqL, ixOf, cmpop, biop, bInt, bLen, bList, bAbs, binop, big, asg, asgs, fits, line, wEq_str, wEq_int, wEq_bl], rfl, by simp [bnd, G.ret, rd, opt, eS, item, seqI, seqL, ixOf, cmpop, biop, bInt, bLen, bList, bAbs, binop, big, asg, asgs, fits, line, wEq_str, wEq_int, wEq_bl]⟩
  | y :: r, x, h => by
    obtain ⟨w, hw, h1, h2, h3⟩ : ∃ w, (w = x ∨ w = y) ∧ bestW true (hW k x) ((y :: r).map (hW k)) = bestW true (hW k w) (r.map (hW k)) ∧ k x ≤ k w ∧ k y ≤ k w := by
      by_cases q : k x = k y
      · have e := h x (by simp [bnd, G.ret, rd, opt, eS, item, seqI, seqL, ixOf, cmpop, biop, bInt, bLen, bList, bAbs, binop, big, asg, asgs, fits, line, wEq_str, wEq_int, wEq_bl]) y (by simp [bnd, G.ret, rd, opt, eS, item, seqI, seqL, ixOf, cmpop, biop, bInt, bLen, bList, bAbs, binop, big, asg, asgs, fits, line, wEq_str, wEq_int, wEq_bl]) q
        subst e
        refine ⟨x, .inl rfl, ?_, Int.le_refl _, Int.le_refl _⟩
        simp only [bestW, List.map_cons, List.foldl_cons, toD_hW, ite_self]
      · by_cases q2 : k x < k y
        · refine ⟨y, .inr rfl, ?_, by omega, Int.le_refl _⟩
          simp only [bestW, List.map_cons, List.foldl_cons, toD_hW, lt_pair q, q2, decide_true, if_true]
        · refine ⟨x, .inl rfl, ?_, Int.le_refl _, by omega⟩
          simp only [bestW, List.map_cons, List.foldl_cons, toD_hW, lt_pair q, q2, decide_false, if_true, Bool.false_eq_true, if_false]
    have hwm : w ∈ x :: y :: r := by rcases hw with e | e <;> rw [e] <;> simp [bnd, G.ret, rd, opt, eS, item, seqI, seqL, ixOf, cmpop, biop, bInt, bLen, bList, bAbs, binop, big, asg, asgs, fits, line, wEq_str, wEq_int, wEq_bl]
    obtain ⟨m, m1, m2, m3⟩ := best_map k r w (fun a ha b hb => by
      have sub : ∀ a, a ∈ w :: r → a ∈ x :: y :: r := fun a ha => by
        rcases List.mem_cons.mp ha with e | e
        · rw [e]; exact hwm
        · simp [bnd, G.ret, rd, opt, eS, item, seqI, seqL, ixOf, cmpop, biop, bInt, bLen, bList, bAbs, binop, big, asg, asgs, fits, line, wEq_str, wEq_int, wEq_bl, e]
      exact h a (sub a ha) b (sub b hb))
    refine ⟨m, ?_, by rw [h1, m2], fun a ha => ?_⟩
    · rcases List.mem_cons.mp m1 with e | e
      · rw [e]; exact hwm
      · simp [bnd, G.ret, rd, opt, eS, item, seqI, seqL, ixOf, cmpop, biop, bInt, bLen, bList, bAbs, binop, big, asg, asgs, fits, line, wEq_str, wEq_int, wEq_bl, e]
    · have hmw := m3 w (by simp [bnd, G.ret, rd, opt, eS, item, seqI, seqL, ixOf, cmpop, biop, bInt, bLen, bList, bAbs, binop, big, asg, asgs, fits, line, wEq_str, wEq_int, wEq_bl])
      simp only [List.mem_cons] at ha
      rcases ha with e | e | e
      · rw [e]; omega
      · rw [e]; omega
      · exact m3 a (by simp [bnd, G.ret, rd, opt, eS, item, seqI, seqL, ixOf, cmpop, biop, bInt, bLen, bList, bAbs, binop, big, asg, asgs, fits, line, wEq_str, wEq_int, wEq_bl, e])
theorem toDs_map (k : Nam → Int) : ∀ l : List Nam, toDs (l.map (hW k)) = some (l.map fun y => pairD (k y) y)
  | [] => rfl
  | y :: l => by
    rw [List.map_cons, toDs, toD_hW, toDs_map k l]
    rfl
theorem alike_pair {i j : Int} {x y : Nam} : PySem.W.alike (pairD i x) (pairD j y) = true := by
  simp [bnd, G.ret, rd, opt, eS, item, seqI, seqL, ixOf, cmpop, biop, bInt, bLen, bList, bAbs, binop, big, asg, asgs, fits, line, wEq_str, wEq_int, wEq_bl, pairD, PySem.W.alike, PySem.W.alikeAll]
theorem depth_pairs (k : Nam → Int) : ∀ l : List Nam, PySem.PyData.depthAll (l.map fun y => pairD (k y) y) ≤ 20
  | [] => by simp [bnd, G.ret, rd, opt, eS, item, seqI, seqL, ixOf, cmpop, biop, bInt, bLen, bList, bAbs, binop, big, asg, asgs, fits, line, wEq_str, wEq_int, wEq_bl, PySem.PyData.depthAll]
  | y :: l => by
    have := depth_pairs k l
    rw [List.map_cons]
    simp [bnd, G.ret, rd, opt, eS, item, seqI, seqL, ixOf, cmpop, biop, bInt, bLen, bList, bAbs, binop, big, asg, asgs, fits, line, wEq_str, wEq_int, wEq_bl, PySem.PyData.depthAll, pairD, PySem.PyData.depth] at this ⊢
    omega
theorem max_pairs (k : Nam → Int) (x : Nam) (r : List Nam) (s : G.ST) (m : Nat) (hm : s[m]? = some ((x :: r).map (hW k))) : biop .max [.ref m] s = some (bestW true (hW k x) (r.map (hW k))) := by
  have h1 : intsW ((x :: r).map (hW k)) = none := rfl
  have h2 := toDs_map k (x :: r)
  have h3 : (((x :: r).map fun y => pairD (k y) y).all fun a => ((x :: r).map fun y => pairD (k y) y).all fun b => PySem.W.alike a b) = true := by
    rw [List.all_map, List.all_eq_true]
    intro a _
    simp only [Function.comp]
    rw [List.all_map, List.all_eq_true]
    intro b _
    exact alike_pair
  have h4 := depth_pairs k (x :: r)
  show (match bInts s lmax [.ref m] with | some w => some w | none => bDat s true [.ref m]) = _
  have e1 : bInts s lmax [.ref m] = none := by
    simp only [bInts, seqL, hm, Option.bind_some, h1, Option.bind_none]
  rw [e1]
  simp only [bDat, seqL, hm, Option.bind_some]
  rw [List.map_cons] at h2 ⊢
  simp only [h2, Option.bind_some]
  rw [if_pos ⟨h3, h4⟩]
end
end K18

set_option Elab.async false
set_option linter.all false
set_option autoImplicit false
set_option maxRecDepth 100000
set_option maxHeartbeats 4000000
namespace K18
open G Pr
section
variable {c : Cl} {n : Nam}
/-- the store of the law's row: what was, the row found, rows of the rounds -/
def sto (s : G.ST) (F : List Nam) (J : G.ST) : G.ST := s ++ (sw F :: J)
theorem sto_len {s : G.ST} {F : List Nam} {J : G.ST} : (sto s F J).length = s.length + 1 + J.length := by unfold sto; simp [bnd, G.ret, rd, opt, eS, item, seqI, seqL, ixOf, cmpop, biop, bInt, bLen, bList, bAbs, binop, big, asg, asgs, fits, line, wEq_str, wEq_int, wEq_bl]; omega
theorem sto_F {s : G.ST} {F : List Nam} {J : G.ST} : (sto s F J)[s.length]? = some (sw F) := by unfold sto; simp [bnd, G.ret, rd, opt, eS, item, seqI, seqL, ixOf, cmpop, biop, bInt, bLen, bList, bAbs, binop, big, asg, asgs, fits, line, wEq_str, wEq_int, wEq_bl]
theorem sto_setF {s : G.ST} {F F' : List Nam} {J : G.ST} : (sto s F J).set s.length (sw F') = sto s F' J := by unfold sto; simp [bnd, G.ret, rd, opt, eS, item, seqI, seqL, ixOf, cmpop, biop, bInt, bLen, bList, bAbs, binop, big, asg, asgs, fits, line, wEq_str, wEq_int, wEq_bl, List.set_append]
theorem sto_push {s : G.ST} {F : List Nam} {J : G.ST} {x : List W} : sto s F J ++ [x] = sto s F (J ++ [x]) := by unfold sto; simp [bnd, G.ret, rd, opt, eS, item, seqI, seqL, ixOf, cmpop, biop, bInt, bLen, bList, bAbs, binop, big, asg, asgs, fits, line, wEq_str, wEq_int, wEq_bl]
theorem sto_last {s : G.ST} {F : List Nam} {J : G.ST} {x : List W} : (sto s F (J ++ [x]))[s.length + 1 + J.length]? = some x := by
  rw [← sto_push, List.getElem?_append_right (by rw [sto_len]; omega), sto_len]
  simp [bnd, G.ret, rd, opt, eS, item, seqI, seqL, ixOf, cmpop, biop, bInt, bLen, bList, bAbs, binop, big, asg, asgs, fits, line, wEq_str, wEq_int, wEq_bl]
theorem sto_setL {s : G.ST} {F : List Nam} {J : G.ST} {x y : List W} : (sto s F (J ++ [x])).set (s.length + 1 + J.length) y = sto s F (J ++ [y]) := by
  rw [← sto_push, ← sto_push, List.set_append_right _ _ (by rw [sto_len]; omega), sto_len]
  simp [bnd, G.ret, rd, opt, eS, item, seqI, seqL, ixOf, cmpop, biop, bInt, bLen, bList, bAbs, binop, big, asg, asgs, fits, line, wEq_str, wEq_int, wEq_bl]
abbrev hL (c : Cl) (F : List Nam) : Nam → W := hW (lci c F.reverse)
def gI (c : Cl) (y : Nam) : W → Option W
  | .tup [.int i, .str ch] => if y ∈ par c ch then some (.int i) else none
  | _ => none
theorem in_ev {call : Nat → List W → M W} (ok : Ok c) {e1 e2 e3 e5 e7 e8 e9 e10 : Option W} {F : List Nam} {m : Nat} {y : Nam} {s : G.ST} (hF : s[m]? = some (sw F)) (hs : ∀ x ∈ F, x ∈ nms c) (hl : F.length ≤ 20) :
    evE pk.pg call (.bi .max (.cons (.bin .add (.lst (.cons (.neg (.k (.int 1))) .nil)) (.lc (.cons (.v 9) (.cons (.v 10) .nil)) (.enum (.var 4)) (.cons (.cmp .isin (.var 6) (.ix (.bi .dict (.cons (.var 0) .nil)) (.var 10))) .nil) (.var 9) [9, 10])) .nil)) [some (clsW c), e1, e2, e3, some (.ref m), e5, some (.str y), e7, e8, e9, e10] s = .ok (.int (lci c F.reverse y)) s := by
  have hd := dict_cls (s := s) ok.nd
  have hc : evE pk.pg call (.lc (.cons (.v 9) (.cons (.v 10) .nil)) (.enum (.var 4)) (.cons (.cmp .isin (.var 6) (.ix (.bi .dict (.cons (.var 0) .nil)) (.var 10))) .nil) (.var 9) [9, 10]) [some (clsW c), e1, e2, e3, some (.ref m), e5, some (.str y), e7, e8, e9, e10] s = .ok (.lst ((idxF c y 0 F).map W.int)) s := by
    have hg : ∀ (i : Nat) (ch : Nam), gI c y (.tup [.int i, .str ch]) = if y ∈ par c ch then some (.int i) else none := fun _ _ => rfl
    rw [← enum_idx y (gI c y) hg 0 F]
    refine lc_liveE (n := m) (by simp [bnd, G.ret, rd, opt, eS, item, seqI, seqL, ixOf, cmpop, biop, bInt, bLen, bList, bAbs, binop, big, asg, asgs, fits, line, wEq_str, wEq_int, wEq_bl, srcEnum]) hF (gI c y) (fun i x hx => ?_) (by rw [sw_len]; show F.length < 1000000; omega) (by
      rw [enum_idx y (gI c y) hg 0 F, List.length_map]
      have := idx_len (c := c) y 0 F
      show _ ≤ 16777216
      omega)
    obtain ⟨ch, hch, rfl⟩ : ∃ z, F[i]? = some z ∧ x = .str z := by
      unfold sw at hx
      rw [List.getElem?_map, Option.map_eq_some_iff] at hx
      obtain ⟨z, h1, h2⟩ := hx
      exact ⟨z, h1, h2.symm⟩
    have hi := item_cls (s := s) (hs ch (List.mem_of_getElem? hch))
    have hm := in_tup (y := y) (L := par c ch) (s := s)
    refine ⟨[some (clsW c), e1, e2, e3, some (.ref m), e5, some (.str y), e7, e8, some (.int i), some (.str ch)], by simp [bnd, G.ret, rd, opt, eS, item, seqI, seqL, ixOf, cmpop, biop, bInt, bLen, bList, bAbs, binop, big, asg, asgs, fits, line, wEq_str, wEq_int, wEq_bl, wipes], ?_⟩
    have hd' : biop .dict [clsW c] s = some (dctW c) := hd
    by_cases hy : y ∈ par c ch
    · simp only [hy, decide_true] at hm
      exact .inr ⟨.int i, by rw [hg, if_pos hy], by simp [bnd, G.ret, rd, opt, eS, item, seqI, seqL, ixOf, cmpop, biop, bInt, bLen, bList, bAbs, binop, big, asg, asgs, fits, line, wEq_str, wEq_int, wEq_bl, hd', -biop, hi, -item, -cmpop, hm], by simp [bnd, G.ret, rd, opt, eS, item, seqI, seqL, ixOf, cmpop, biop, bInt, bLen, bList, bAbs, binop, big, asg, asgs, fits, line, wEq_str, wEq_int, wEq_bl]⟩
    · simp only [hy, decide_false] at hm
      exact .inl ⟨by rw [hg, if_neg hy], by simp [bnd, G.ret, rd, opt, eS, item, seqI, seqL, ixOf, cmpop, biop, bInt, bLen, bList, bAbs, binop, big, asg, asgs, fits, line, wEq_str, wEq_int, wEq_bl, hd', -biop, hi, -item, -cmpop, hm]⟩
  have hmx : biop .max [.lst (.int (-1) :: (idxF c y 0 F).map W.int)] s = some (.int (lci c F.reverse y)) := by
    have h1 := ints_map (-1 :: idxF c y 0 F)
    rw [List.map_cons] at h1
    show (match bInts s lmax [_] with | some w => some w | none => _) = _
    simp only [bInts, seqL, Option.bind_some, h1, idx_max', Option.map_some]
  have hil : 1 + (idxF c y 0 F).length ≤ 16777216 := by
    have := idx_len (c := c) y 0 F
    omega
  rw [x_bi_max]
  simp [bnd, G.ret, rd, opt, eS, item, seqI, seqL, ixOf, cmpop, biop, bInt, bLen, bList, bAbs, binop, big, asg, asgs, fits, line, wEq_str, wEq_int, wEq_bl, hc, hmx, -biop, hil]
theorem if_ev {call : Nat → List W → M W} {e0 e1 e4 e5 e7 e8 e9 e10 : Option W} {ps : List (Nam × Nam)} {left : List Nam} {y : Nam} {s : G.ST} (hp : ps.length ≤ line) :
    evE pk.pg call (.cmp .eq (.lc (.cons (.v 7) (.cons (.v 8) .nil)) (.itr (.var 2)) (.cons (.and (.cmp .eq (.var 8) (.var 6)) (.cmp .isin (.var 7) (.var 3))) .nil) (.k (.int 1)) [7, 8]) (.lst .nil)) [e0, e1, some (.lst (pws ps)), some (.lst (sw left)), e4, e5, some (.str y), e7, e8, e9, e10] s = .ok (.bl (!(ps.any fun p => p.2 == y && decide (p.1 ∈ left)))) s := by
  have hc : evE pk.pg call (.lc (.cons (.v 7) (.cons (.v 8) .nil)) (.itr (.var 2)) (.cons (.and (.cmp .eq (.var 8) (.var 6)) (.cmp .isin (.var 7) (.var 3))) .nil) (.k (.int 1)) [7, 8]) [e0, e1, some (.lst (pws ps)), some (.lst (sw left)), e4, e5, some (.str y), e7, e8, e9, e10] s = .ok (.lst ((ps.filter fun p => p.2 == y && decide (p.1 ∈ left)).map fun _ => .int 1)) s := by
    refine lc_filtL (f := pw) (by simp [bnd, G.ret, rd, opt, eS, item, seqI, seqL, ixOf, cmpop, biop, bInt, bLen, bList, bAbs, binop, big, asg, asgs, fits, line, wEq_str, wEq_int, wEq_bl, srcOf]) pw_inj (fun p _ => ⟨[e0, e1, some (.lst (pws ps)), some (.lst (sw left)), e4, e5, some (.str y), some (.str p.1), some (.str p.2), e9, e10], by simp [bnd, G.ret, rd, opt, eS, item, seqI, seqL, ixOf, cmpop, biop, bInt, bLen, bList, bAbs, binop, big, asg, asgs, fits, line, wEq_str, wEq_int, wEq_bl, wipes, pw], ?_, fun _ => by simp [bnd, G.ret, rd, opt, eS, item, seqI, seqL, ixOf, cmpop, biop, bInt, bLen, bList, bAbs, binop, big, asg, asgs, fits, line, wEq_str, wEq_int, wEq_bl]⟩) hp
    have hm := in_lst (y := p.1) (L := left) (s := s)
    cases q : p.2 == y
    · simp [bnd, G.ret, rd, opt, eS, item, seqI, seqL, ixOf, cmpop, biop, bInt, bLen, bList, bAbs, binop, big, asg, asgs, fits, line, wEq_str, wEq_int, wEq_bl, q]
    · simp [bnd, G.ret, rd, opt, eS, item, seqI, seqL, ixOf, cmpop, biop, bInt, bLen, bList, bAbs, binop, big, asg, asgs, fits, line, wEq_str, wEq_int, wEq_bl, q, hm, -cmpop, cmpop.eq_1]
      cases decide (p.1 ∈ left) <;> rfl
  have key : ∀ l : List (Nam × Nam), cmpop .eq (.lst (l.map fun _ => .int 1)) (.lst []) s = some (l == []) := by
    intro l
    cases l <;> simp [bnd, G.ret, rd, opt, eS, item, seqI, seqL, ixOf, cmpop, biop, bInt, bLen, bList, bAbs, binop, big, asg, asgs, fits, line, wEq_str, wEq_int, wEq_bl, wEq, deref, eqOk, eqOks, weq, weqs]
  have hb : ∀ l : List (Nam × Nam), ((l.filter fun p => p.2 == y && decide (p.1 ∈ left)) == []) = !(l.any fun p => p.2 == y && decide (p.1 ∈ left)) := by
    intro l
    induction l with
    | nil => rfl
    | cons a l ih =>
      rw [List.filter_cons, List.any_cons]
      cases q : (a.2 == y && decide (a.1 ∈ left))
      · simp only [Bool.false_eq_true, if_false, ih, Bool.false_or]
      · simp only [if_true, Bool.true_or, Bool.not_true]; rfl
  have k2 := key (ps.filter fun p => p.2 == y && decide (p.1 ∈ left))
  rw [hb] at k2
  rw [xE_cmp]
  simp [bnd, G.ret, rd, opt, eS, item, seqI, seqL, ixOf, cmpop, biop, bInt, bLen, bList, bAbs, binop, big, asg, asgs, fits, line, wEq_str, wEq_int, wEq_bl, hc, k2, -cmpop]
theorem some_ev {call : Nat → List W → M W} (ok : Ok c) {e1 e6 e7 e8 e9 e10 : Option W} {ps : List (Nam × Nam)} {left F : List Nam} {s : G.ST} {J : G.ST} (hp : ps.length ≤ line) (hs : ∀ x ∈ F, x ∈ nms c) (hl : F.length ≤ 20) (hll : left.length ≤ 20) :
    ∃ e6', evS pk.pg call (.forr (.v 6) (.itr (.var 3)) (.seq (.ife (.cmp .eq (.lc (.cons (.v 7) (.cons (.v 8) .nil)) (.itr (.var 2)) (.cons (.and (.cmp .eq (.var 8) (.var 6)) (.cmp .isin (.var 7) (.var 3))) .nil) (.k (.int 1)) [7, 8]) (.lst .nil)) (.seq (.expr (.meth .append (.var 5) (.cons (.tup (.cons (.bi .max (.cons (.bin .add (.lst (.cons (.neg (.k (.int 1))) .nil)) (.lc (.cons (.v 9) (.cons (.v 10) .nil)) (.enum (.var 4)) (.cons (.cmp .isin (.var 6) (.ix (.bi .dict (.cons (.var 0) .nil)) (.var 10))) .nil) (.var 9) [9, 10])) .nil)) (.cons (.var 6) .nil))) .nil))) .nil) .nil) .nil)) [some (clsW c), e1, some (.lst (pws ps)), some (.lst (sw left)), some (.ref s.length), some (.ref (s.length + 1 + J.length)), e6, e7, e8, e9, e10] (sto s F (J ++ [[]])) =
      .ok .nx [some (clsW c), e1, some (.lst (pws ps)), some (.lst (sw left)), some (.ref s.length), some (.ref (s.length + 1 + J.length)), e6', e7, e8, e9, e10] (sto s F (J ++ [(free ps left).map (hL c F)])) := by
  refine for_rule (Q := fun R => ∃ e6', R = .ok .nx [some (clsW c), e1, some (.lst (pws ps)), some (.lst (sw left)), some (.ref s.length), some (.ref (s.length + 1 + J.length)), e6', e7, e8, e9, e10] (sto s F (J ++ [(free ps left).map (hL c F)]))) (xs := sw left) (s' := sto s F (J ++ [[]])) (by simp [bnd, G.ret, rd, opt, eS, item, seqI, seqL, ixOf, cmpop, biop, bInt, bLen, bList, bAbs, binop, big, asg, asgs, fits, line, wEq_str, wEq_int, wEq_bl, srcOf])
    (fun xs env s' => ∃ A T e6, xs = sw T ∧ A ++ (T.filter fun y => !(ps.any fun p => p.2 == y && decide (p.1 ∈ left))) = free ps left ∧ s' = sto s F (J ++ [A.map (hL c F)]) ∧ env = [some (clsW c), e1, some (.lst (pws ps)), some (.lst (sw left)), some (.ref s.length), some (.ref (s.length + 1 + J.length)), e6, e7, e8, e9, e10])
    (fun env s' ⟨A, T, e6, hx, hA, hs', he⟩ => ?_) (fun x xs env s' ⟨A, T, e6, hx, hA, hs', he⟩ => ?_) ⟨[], left, e6, rfl, rfl, rfl, rfl⟩
  · subst hs'
    subst he
    cases T with
    | cons _ _ => cases hx
    | nil =>
      rw [List.filter_nil, List.append_nil] at hA
      rw [hA]
      exact ⟨e6, rfl⟩
  · subst hs'
    subst he
    cases T with
    | nil => cases hx
    | cons y T =>
      simp only [sw, List.map_cons, List.cons.injEq] at hx
      obtain ⟨rfl, rfl⟩ := hx
      refine ⟨[some (clsW c), e1, some (.lst (pws ps)), some (.lst (sw left)), some (.ref s.length), some (.ref (s.length + 1 + J.length)), some (.str y), e7, e8, e9, e10], by simp [bnd, G.ret, rd, opt, eS, item, seqI, seqL, ixOf, cmpop, biop, bInt, bLen, bList, bAbs, binop, big, asg, asgs, fits, line, wEq_str, wEq_int, wEq_bl], .inl ?_⟩
      have hi := if_ev (call := call) (e0 := some (clsW c)) (e1 := e1) (e4 := some (.ref s.length)) (e5 := some (.ref (s.length + 1 + J.length))) (e7 := e7) (e8 := e8) (e9 := e9) (e10 := e10) (left := left) (y := y) (s := sto s F (J ++ [A.map (hL c F)])) hp
      rw [List.filter_cons] at hA
      cases q : (ps.any fun p => p.2 == y && decide (p.1 ∈ left))
      · rw [q] at hi hA
        simp only [Bool.not_false, if_true] at hi hA
        have hv := in_ev (call := call) ok (e1 := e1) (e2 := some (.lst (pws ps))) (e3 := some (.lst (sw left))) (e5 := some (.ref (s.length + 1 + J.length))) (e7 := e7) (e8 := e8) (e9 := e9) (e10 := e10) (F := F) (m := s.length) (y := y) (s := sto s F (J ++ [A.map (hL c F)])) sto_F hs hl
        have hAl : A.length < line := by
          show _ < 16777216
          have h1 : (free ps left).length ≤ left.length := List.length_filter_le _ _
          rw [← hA, List.length_append] at h1
          omega
        refine ⟨_, sto s F (J ++ [(A ++ [y]).map (hL c F)]), ?_, A ++ [y], T, some (.str y), rfl, by rw [List.append_assoc]; exact hA, rfl, rfl⟩
        have hap : mApp (s.length + 1 + J.length) (hL c F y) (sto s F (J ++ [A.map (hL c F)])) = .ok .non (sto s F (J ++ [(A ++ [y]).map (hL c F)])) := by
          unfold mApp
          rw [sto_last]
          simp only [List.length_map]
          rw [if_pos hAl, sto_setL, List.map_append]
          rfl
        simp [bnd, G.ret, rd, opt, eS, item, seqI, seqL, ixOf, cmpop, biop, bInt, bLen, bList, bAbs, binop, big, asg, asgs, fits, line, wEq_str, wEq_int, wEq_bl, hi, hv, Me.isL, meL]
        rw [show W.tup [W.int (lci c F.reverse y), W.str y] = hL c F y from rfl, hap]
        simp [bnd, G.ret, rd, opt, eS, item, seqI, seqL, ixOf, cmpop, biop, bInt, bLen, bList, bAbs, binop, big, asg, asgs, fits, line, wEq_str, wEq_int, wEq_bl]
      · rw [q] at hi hA
        simp only [Bool.not_true, Bool.false_eq_true, if_false] at hi hA
        refine ⟨_, sto s F (J ++ [A.map (hL c F)]), ?_, A, T, some (.str y), rfl, hA, rfl, rfl⟩
        simp [bnd, G.ret, rd, opt, eS, item, seqI, seqL, ixOf, cmpop, biop, bInt, bLen, bList, bAbs, binop, big, asg, asgs, fits, line, wEq_str, wEq_int, wEq_bl, hi]
theorem eq_ref {s : G.ST} {m : Nat} {l : List W} (h : s[m]? = some l) : cmpop .eq (.ref m) (.lst []) s = some l.isEmpty := by
  cases l <;> simp [bnd, G.ret, rd, opt, eS, item, seqI, seqL, ixOf, cmpop, biop, bInt, bLen, bList, bAbs, binop, big, asg, asgs, fits, line, wEq_str, wEq_int, wEq_bl, wEq, deref, h, eqOk, eqOks, weq, weqs]
theorem ldrop_ev {call : Nat → List W → M W} {e0 e1 e2 e5 e6 e7 e8 e9 e10 : Option W} {left F : List Nam} {g : Nam} {s J : G.ST} (hl : left.length ≤ line) : evE pk.pg call (.lc (.v 6) (.itr (.var 3)) (.cons (.cmp .ne (.var 6) (.ix (.var 4) (.neg (.k (.int 1))))) .nil) (.var 6) [6]) [e0, e1, e2, some (.lst (sw left)), some (.ref s.length), e5, e6, e7, e8, e9, e10] (sto s (F ++ [g]) J) = .ok (.lst (sw (drop1 left g))) (sto s (F ++ [g]) J) := by
  refine lc_filtL (f := W.str) (by simp [bnd, G.ret, rd, opt, eS, item, seqI, seqL, ixOf, cmpop, biop, bInt, bLen, bList, bAbs, binop, big, asg, asgs, fits, line, wEq_str, wEq_int, wEq_bl, srcOf]) wstr_inj (fun y _ => ⟨[e0, e1, e2, some (.lst (sw left)), some (.ref s.length), e5, some (.str y), e7, e8, e9, e10], by simp [bnd, G.ret, rd, opt, eS, item, seqI, seqL, ixOf, cmpop, biop, bInt, bLen, bList, bAbs, binop, big, asg, asgs, fits, line, wEq_str, wEq_int, wEq_bl, wipes], ?_, fun _ => by simp [bnd, G.ret, rd, opt, eS, item, seqI, seqL, ixOf, cmpop, biop, bInt, bLen, bList, bAbs, binop, big, asg, asgs, fits, line, wEq_str, wEq_int, wEq_bl]⟩) hl
  have hi : item (.ref s.length) (.int (-1)) (sto s (F ++ [g]) J) = some (.str g) := by
    simp only [item, seqI, sto_F, Option.bind_some, sw_len]
    have h1 : ixOf (-1) (F ++ [g]).length = some F.length := by
      unfold ixOf
      rw [if_neg (by omega), if_pos (by simp only [List.length_append, List.length_singleton]; omega)]
      simp only [List.length_append, List.length_singleton]
      congr 1
      omega
    rw [h1]
    simp [bnd, G.ret, rd, opt, eS, item, seqI, seqL, ixOf, cmpop, biop, bInt, bLen, bList, bAbs, binop, big, asg, asgs, fits, line, wEq_str, wEq_int, wEq_bl, sw]
  cases q : y == g <;> simp [bnd, G.ret, rd, opt, eS, item, seqI, seqL, ixOf, cmpop, biop, bInt, bLen, bList, bAbs, binop, big, asg, asgs, fits, line, wEq_str, wEq_int, wEq_bl, hi, -item, q]
theorem lprec_ok (ok : Ok c) (hn : n ∈ nms c) (d : Nat) (s : G.ST) : ∃ F J, callD pk.pg (d + 3) 35 [clsW c, .str n] s = .ok (optW (prec c n)) (sto s F J) := by
  rw [call_eq (df := ⟨2, 11, b__law_precedence⟩) rfl rfl]
  have hA := above2_ok ok hn (d + 1) s
  have hO := orders2_ok ok hn d s
  have a := abv_ok ok hn
  unfold prec
  generalize abv c n = L at hA hO a
  have hLl := a.len
  have hpl : (ords c L).length ≤ line := by
    have := ords_len ok a.sub
    show _ ≤ 16777216
    omega
  obtain ⟨Z, hZ⟩ : ∃ Z, precF c (ords c L) 21 L [] = Z := ⟨_, rfl⟩
  rw [hZ]
  have key := whl_rule (c := fun env => evE pk.pg (callD pk.pg (d + 2)) (.cmp .ne (.var 3) (.lst .nil)) env) (b := fun env s => evS pk.pg (callD pk.pg (d + 2)) (.seq (.asg (.v 5) (.mlst .nil)) (.seq (.forr (.v 6) (.itr (.var 3)) (.seq (.ife (.cmp .eq (.lc (.cons (.v 7) (.cons (.v 8) .nil)) (.itr (.var 2)) (.cons (.and (.cmp .eq (.var 8) (.var 6)) (.cmp .isin (.var 7) (.var 3))) .nil) (.k (.int 1)) [7, 8]) (.lst .nil)) (.seq (.expr (.meth .append (.var 5) (.cons (.tup (.cons (.bi .max (.cons (.bin .add (.lst (.cons (.neg (.k (.int 1))) .nil)) (.lc (.cons (.v 9) (.cons (.v 10) .nil)) (.enum (.var 4)) (.cons (.cmp .isin (.var 6) (.ix (.bi .dict (.cons (.var 0) .nil)) (.var 10))) .nil) (.var 9) [9, 10])) .nil)) (.cons (.var 6) .nil))) .nil))) .nil) .nil) .nil)) (.seq (.ife (.cmp .eq (.var 5) (.lst .nil)) (.seq (.rt (.k .non)) .nil) .nil) (.seq (.expr (.meth .append (.var 4) (.cons (.ix (.bi .max (.cons (.var 5) .nil)) (.k (.int 1))) .nil))) (.seq (.asg (.v 3) (.lc (.v 6) (.itr (.var 3)) (.cons (.cmp .ne (.var 6) (.ix (.var 4) (.neg (.k (.int 1))))) .nil) (.var 6) [6])) .nil))))) env s)
    (Q := fun R => (Z = none ∧ ∃ env' F J, R = .ok (.rt .non) env' (sto s F J)) ∨ ∃ l J e3 e5 e6 e7 e8 e9 e10, Z = some l ∧ R = .ok .nx [some (clsW c), some (.str n), some (.lst (pws (ords c L))), e3, some (.ref s.length), e5, e6, e7, e8, e9, e10] (sto s l J))
    (fun k env s' => ∃ left found J e5 e6 e7 e8 e9 e10, s' = sto s found J ∧ Ss c n L left found ∧ left.length < k ∧ precF c (ords c L) k left found = Z ∧ env = [some (clsW c), some (.str n), some (.lst (pws (ords c L))), some (.lst (sw left)), some (.ref s.length), e5, e6, e7, e8, e9, e10])
    (fun env s' ⟨left, found, _, _, _, _, _, _, _, _, _, h, _⟩ => by omega)
    (fun k env s' ⟨left, found, J, e5, e6, e7, e8, e9, e10, hs, S, hk, e, he⟩ => by
      subst hs
      subst he
      have hll : left.length ≤ 20 := by
        have := nodup_len S.lnd S.lsub
        omega
      have hfl : found.length ≤ 20 := by
        have := nodup_len S.fnd S.fsub
        omega
      cases left with
      | nil =>
        have h0 := ne_nil (l := []) (s := sto s found J)
        simp only [sw, List.map_nil] at h0
        exact .inl ⟨by simp [bnd, G.ret, rd, opt, eS, item, seqI, seqL, ixOf, cmpop, biop, bInt, bLen, bList, bAbs, binop, big, asg, asgs, fits, line, wEq_str, wEq_int, wEq_bl, h0, -cmpop], .inr ⟨found, J, _, e5, e6, e7, e8, e9, e10, e.symm, rfl⟩⟩
      | cons l ls =>
        refine .inr ⟨?_, ?_⟩
        · have := ne_nil (l := l :: ls) (s := sto s found J)
          simp only [sw, List.map_cons] at this
          simp [bnd, G.ret, rd, opt, eS, item, seqI, seqL, ixOf, cmpop, biop, bInt, bLen, bList, bAbs, binop, big, asg, asgs, fits, line, wEq_str, wEq_int, wEq_bl, this, -cmpop]
        simp only [precF] at e
        have hlt0 : ∀ g, g ∈ l :: ls → (drop1 (l :: ls) g).length < (l :: ls).length := fun g hg => drop1_lt hg
        generalize l :: ls = left at e hlt0 S hk hll
        obtain ⟨e6', hsm⟩ := some_ev (call := callD pk.pg (d + 2)) ok (e1 := some (.str n)) (e6 := e6) (e7 := e7) (e8 := e8) (e9 := e9) (e10 := e10) (ps := ords c L) (left := left) (F := found) (s := s) (J := J) hpl (fun x hx => a.sub x (S.fsub x hx)) hfl hll
        have hrf := eq_ref (sto_last (s := s) (F := found) (J := J) (x := (free (ords c L) left).map (hL c found)))
        cases q : free (ords c L) left with
        | nil =>
          rw [q] at e hrf hsm
          simp only [List.map_nil, List.isEmpty_nil] at hrf hsm
          refine .inr (.inr ⟨.non, [some (clsW c), some (.str n), some (.lst (pws (ords c L))), some (.lst (sw left)), some (.ref s.length), some (.ref (s.length + 1 + J.length)), e6', e7, e8, e9, e10], sto s found (J ++ [[]]), ?_, .inl ⟨e.symm, _, _, _, rfl⟩⟩)
          simp [bnd, G.ret, rd, opt, eS, item, seqI, seqL, ixOf, cmpop, biop, bInt, bLen, bList, bAbs, binop, big, asg, asgs, fits, line, wEq_str, wEq_int, wEq_bl, sto_push, sto_len, hsm, hrf, -cmpop]
        | cons x r =>
          have hm := nxt_best (c := c) found.reverse (x :: r) x List.mem_cons_self
          rw [q] at e hrf hsm
          simp only at e
          generalize hg : nxt c found.reverse (x :: r) x = g at e hm
          obtain ⟨m, b1, b2, b3⟩ := best_map (lci c found.reverse) r x (fun y hy z hz h => S.uniq a (by rw [q]; exact hy) (by rw [q]; exact hz) h)
          have hgf : g ∈ free (ords c L) left := by rw [q]; exact hm.1
          have hmg : m = g := S.uniq a (by rw [q]; exact b1) hgf (by
            have h1 := b3 g hm.1
            have h2 := hm.2 m b1
            omega)
          subst hmg
          have hmx := max_pairs (lci c found.reverse) x r (sto s found (J ++ [(x :: r).map (hL c found)])) _ sto_last
          rw [b2] at hmx
          have hgl := (free_mem.mp hgf).1
          have S' := S.step a hgf
          have hlt := hlt0 m hgl
          have hap : mApp s.length (.str m) (sto s found (J ++ [(x :: r).map (hL c found)])) = .ok .non (sto s (found ++ [m]) (J ++ [(x :: r).map (hL c found)])) := by
            unfold mApp
            rw [sto_F]
            simp only [sw_len]
            rw [if_pos (by show _ < 16777216; omega)]
            have := sto_setF (s := s) (F := found) (F' := found ++ [m]) (J := J ++ [(x :: r).map (hL c found)])
            simp only [sw, List.map_append, List.map_cons, List.map_nil] at this ⊢
            rw [this]
          have hdr := ldrop_ev (call := callD pk.pg (d + 2)) (e0 := some (clsW c)) (e1 := some (.str n)) (e2 := some (.lst (pws (ords c L)))) (e5 := some (.ref (s.length + 1 + J.length))) (e6 := e6') (e7 := e7) (e8 := e8) (e9 := e9) (e10 := e10) (left := left) (F := found) (g := m) (s := s) (J := J ++ [(x :: r).map (hL c found)]) (by show _ ≤ 16777216; omega)
          refine .inl ⟨[some (clsW c), some (.str n), some (.lst (pws (ords c L))), some (.lst (sw (drop1 left m))), some (.ref s.length), some (.ref (s.length + 1 + J.length)), e6', e7, e8, e9, e10], sto s (found ++ [m]) (J ++ [(x :: r).map (hL c found)]), ?_, drop1 left m, found ++ [m], _, _, _, _, _, _, _, rfl, S', by omega, e, rfl⟩
          have hix : item (hW (lci c found.reverse) m) (.int 1) (sto s found (J ++ [(x :: r).map (hL c found)])) = some (.str m) := rfl
          have hsf : soft (hW (lci c found.reverse) m) = hW (lci c found.reverse) m := rfl
          have hem : ((x :: r).map (hL c found)).isEmpty = false := rfl
          rw [hem] at hrf
          generalize (x :: r).map (hL c found) = H at hsm hrf hmx hap hdr hix
          simp [bnd, G.ret, rd, opt, eS, item, seqI, seqL, ixOf, cmpop, biop, bInt, bLen, bList, bAbs, binop, big, asg, asgs, fits, line, wEq_str, wEq_int, wEq_bl, sto_push, sto_len, hsm, hrf, -cmpop, hmx, -biop, hsf, hix, -item, Me.isL, meL, hap, hdr])
    (n := pk.pg.fuel) (k := 21) (env := [some (clsW c), some (.str n), some (.lst (pws (ords c L))), some (.lst (sw L)), some (.ref s.length), none, none, none, none, none, none]) (s := sto s [] []) (by decide) ⟨L, [], [], none, none, none, none, none, none, rfl, .start a, by omega, hZ, rfl⟩
  have hs0 : s ++ [[]] = sto s [] [] := rfl
  rcases key with ⟨e, env', F, J, key⟩ | ⟨l, J, e3, e5, e6, e7, e8, e9, e10, e, key⟩
  · have key := evS_whl.trans key
    rw [e]
    exact ⟨F, J, by simp [bnd, G.ret, rd, opt, eS, item, seqI, seqL, ixOf, cmpop, biop, bInt, bLen, bList, bAbs, binop, big, asg, asgs, fits, line, wEq_str, wEq_int, wEq_bl, b__law_precedence, hA, hO, hs0, key, optW]⟩
  · have key := evS_whl.trans key
    rw [e]
    have ht : biop .tuple [.ref s.length] (sto s l J) = some (.tup (sw l)) := by
      show (seqI _ _).map _ = _
      simp only [seqI, sto_F, Option.map_some]
    exact ⟨l, J, by simp [bnd, G.ret, rd, opt, eS, item, seqI, seqL, ixOf, cmpop, biop, bInt, bLen, bList, bAbs, binop, big, asg, asgs, fits, line, wEq_str, wEq_int, wEq_bl, b__law_precedence, hA, hO, hs0, ht, -biop, key, optW]⟩
end
end K18

set_option Elab.async false
set_option linter.all false
set_option autoImplicit false
set_option maxRecDepth 100000
set_option maxHeartbeats 4000000
namespace K18
open G Pr
section
variable {c : Cl} {n : Nam}
theorem mem_enum {x : W} : ∀ {i : Nat} {L : List Nam}, x ∈ enumW i (sw L) → ∃ (j : Nat) (z : Nam), x = .tup [.int j, .str z]
  | i, [], h => by simp [bnd, G.ret, rd, opt, eS, item, seqI, seqL, ixOf, cmpop, biop, bInt, bLen, bList, bAbs, binop, big, asg, asgs, fits, line, wEq_str, wEq_int, wEq_bl, enumW] at h
  | i, y :: L, h => by
    simp only [sw, List.map_cons, enumW, List.mem_cons] at h
    rcases h with h | h
    · exact ⟨i, y, h⟩
    · exact mem_enum (i := i + 1) (L := L) h
theorem enum_len : ∀ (i : Nat) (L : List W), (enumW i L).length = L.length
  | i, [] => rfl
  | i, y :: L => by simp [bnd, G.ret, rd, opt, eS, item, seqI, seqL, ixOf, cmpop, biop, bInt, bLen, bList, bAbs, binop, big, asg, asgs, fits, line, wEq_str, wEq_int, wEq_bl, enumW, enum_len (i + 1) L]
end
end K18

set_option Elab.async false
set_option linter.all false
set_option autoImplicit false
set_option maxRecDepth 100000
set_option maxHeartbeats 4000000
namespace K18
open G Pr
section
variable {c : Cl} {n : Nam}
def told : List Nam := [[116], [111, 98, 106, 101, 99, 116], [115, 121, 109, 98, 111, 108], [108, 105, 115, 116], [110, 117, 108, 108], [99, 111, 110, 115], [105, 110, 116, 101, 103, 101, 114], [116, 101, 120, 116]]
theorem told_c : pk.pg.consts[3]? = some (.tup (sw told)) := rfl
structure GN (x : Nam) : Prop where
  fit : ∀ d s, callD pk.pg (d + 4) 4 [.str x] s = .ok (.bl true) s
  not : x ∉ told
theorem unl_nd : ∀ {ks seen : List Nam}, (seen ++ ks).Nodup → unl seen ks = ks.length
  | [], _, _ => rfl
  | k :: ks, seen, h => by
    have hk : k ∉ seen := fun q => by
      rw [List.nodup_append] at h
      exact h.2.2 k q k (by simp [bnd, G.ret, rd, opt, eS, item, seqI, seqL, ixOf, cmpop, biop, bInt, bLen, bList, bAbs, binop, big, asg, asgs, fits, line, wEq_str, wEq_int, wEq_bl, bIsi, isTy]) rfl
    have h2 : (seen ++ [k] ++ ks).Nodup := by simpa [bnd, G.ret, rd, opt, eS, item, seqI, seqL, ixOf, cmpop, biop, bInt, bLen, bList, bAbs, binop, big, asg, asgs, fits, line, wEq_str, wEq_int, wEq_bl, bIsi, isTy] using h
    simp only [unl, if_neg hk, unl_nd h2, List.length_cons]
    omega
theorem lens_lst {l : List Nam} (h : l.Nodup) (hl : l.length < 4000) {s : G.ST} : biop .lenset [.lst (sw l)] s = some (.int l.length) := by
  have := unl_nd (seen := []) (ks := l) (by simpa [bnd, G.ret, rd, opt, eS, item, seqI, seqL, ixOf, cmpop, biop, bInt, bLen, bList, bAbs, binop, big, asg, asgs, fits, line, wEq_str, wEq_int, wEq_bl, bIsi, isTy] using h)
  show bUnl s [.lst (sw l)] = _
  simp only [bUnl, seqI, Option.bind_some, strsW_map]
  rw [if_pos hl, this]
theorem lens_tup {l : List Nam} (h : l.Nodup) (hl : l.length < 4000) {s : G.ST} : biop .lenset [.tup (sw l)] s = some (.int l.length) := by
  have := unl_nd (seen := []) (ks := l) (by simpa [bnd, G.ret, rd, opt, eS, item, seqI, seqL, ixOf, cmpop, biop, bInt, bLen, bList, bAbs, binop, big, asg, asgs, fits, line, wEq_str, wEq_int, wEq_bl, bIsi, isTy] using h)
  show bUnl s [.tup (sw l)] = _
  simp only [bUnl, seqI, Option.bind_some, strsW_map]
  rw [if_pos hl, this]
theorem unlike_lst (d : Nat) {l : List Nam} (h : l.Nodup) (hl : l.length < 4000) (s : G.ST) : callD pk.pg (d + 1) 5 [.lst (sw l)] s = .ok (.bl true) s := by
  rw [call_eq (df := ⟨1, 1, b_are_unlike⟩) rfl rfl]
  have h1 := lens_lst h hl (s := s)
  have h2 : biop .len [.lst (sw l)] s = some (.int l.length) := by simp [bnd, G.ret, rd, opt, eS, item, seqI, seqL, ixOf, cmpop, biop, bInt, bLen, bList, bAbs, binop, big, asg, asgs, fits, line, wEq_str, wEq_int, wEq_bl, bIsi, isTy, sw_len]
  generalize sw l = sl at h1 h2
  simp [bnd, G.ret, rd, opt, eS, item, seqI, seqL, ixOf, cmpop, biop, bInt, bLen, bList, bAbs, binop, big, asg, asgs, fits, line, wEq_str, wEq_int, wEq_bl, bIsi, isTy, b_are_unlike, h1, h2, -biop]
theorem unlike_tup (d : Nat) {l : List Nam} (h : l.Nodup) (hl : l.length < 4000) (s : G.ST) : callD pk.pg (d + 1) 5 [.tup (sw l)] s = .ok (.bl true) s := by
  rw [call_eq (df := ⟨1, 1, b_are_unlike⟩) rfl rfl]
  have h1 := lens_tup h hl (s := s)
  have h2 : biop .len [.tup (sw l)] s = some (.int l.length) := by simp [bnd, G.ret, rd, opt, eS, item, seqI, seqL, ixOf, cmpop, biop, bInt, bLen, bList, bAbs, binop, big, asg, asgs, fits, line, wEq_str, wEq_int, wEq_bl, bIsi, isTy, sw_len]
  generalize sw l = sl at h1 h2
  simp [bnd, G.ret, rd, opt, eS, item, seqI, seqL, ixOf, cmpop, biop, bInt, bLen, bList, bAbs, binop, big, asg, asgs, fits, line, wEq_str, wEq_int, wEq_bl, bIsi, isTy, b_are_unlike, h1, h2, -biop]
theorem row_ok (d : Nat) (xs : List W) (lo hi : Int) (h1 : lo ≤ xs.length) (h2 : (xs.length : Int) ≤ hi) (s : G.ST) : callD pk.pg (d + 1) 0 [.tup xs, .int lo, .int hi] s = .ok (.bl true) s := by
  rw [call_eq (df := ⟨3, 3, b_is_row_of⟩) rfl rfl]
  simp [bnd, G.ret, rd, opt, eS, item, seqI, seqL, ixOf, cmpop, biop, bInt, bLen, bList, bAbs, binop, big, asg, asgs, fits, line, wEq_str, wEq_int, wEq_bl, bIsi, isTy, b_is_row_of, h1, h2]
theorem row_okH (d : Nat) (xs : List W) (lo hi : Int) (h1 : lo ≤ xs.length) (h2 : (xs.length : Int) ≤ hi) (s : G.ST) : callD pk.pg (d + 1) 0 [.htup xs, .int lo, .int hi] s = .ok (.bl true) s := by
  rw [call_eq (df := ⟨3, 3, b_is_row_of⟩) rfl rfl]
  simp [bnd, G.ret, rd, opt, eS, item, seqI, seqL, ixOf, cmpop, biop, bInt, bLen, bList, bAbs, binop, big, asg, asgs, fits, line, wEq_str, wEq_int, wEq_bl, bIsi, isTy, b_is_row_of, h1, h2]
theorem rowW_inj : ∀ a b : Nam × List Nam, rowW a = rowW b → a = b := fun ⟨a, p⟩ ⟨b, q⟩ h => by
  simp only [rowW, W.tup.injEq, List.cons.injEq, W.str.injEq, and_true] at h
  obtain ⟨rfl, h⟩ := h
  have : ∀ {l m : List Nam}, sw l = sw m → l = m := fun {l m} h => by
    have h2 := congrArg strsW h
    rw [strsW_map, strsW_map] at h2
    exact Option.some.inj h2
  rw [this h]
theorem all_true {α : Type} (l : List α) {s : G.ST} : biop .all [.lst (l.map fun _ => .bl true)] s = some (.bl true) := by
  show bBools s (fun bs => bs.all id) [.lst (l.map fun _ => .bl true)] = _
  have h := boolsW_map (l := l) (q := fun _ => true)
  simp only [bBools, seqL, Option.bind_some, h, Option.map_some]
  congr 2
  simp [bnd, G.ret, rd, opt, eS, item, seqI, seqL, ixOf, cmpop, biop, bInt, bLen, bList, bAbs, binop, big, asg, asgs, fits, line, wEq_str, wEq_int, wEq_bl, bIsi, isTy]
theorem any_false {α : Type} (l : List α) {s : G.ST} : biop .any [.lst (l.map fun _ => .bl false)] s = some (.bl false) := by
  show bBools s (fun bs => bs.any id) [.lst (l.map fun _ => .bl false)] = _
  have h := boolsW_map (l := l) (q := fun _ => false)
  simp only [bBools, seqL, Option.bind_some, h, Option.map_some]
  congr 2
  simp [bnd, G.ret, rd, opt, eS, item, seqI, seqL, ixOf, cmpop, biop, bInt, bLen, bList, bAbs, binop, big, asg, asgs, fits, line, wEq_str, wEq_int, wEq_bl, bIsi, isTy]
theorem i0_row {r : Nam × List Nam} {s : G.ST} : item (rowW r) (.int 0) s = some (.str r.1) := rfl
theorem i1_row {r : Nam × List Nam} {s : G.ST} : item (rowW r) (.int 1) s = some (.tup (sw r.2)) := rfl
theorem soft_row {r : Nam × List Nam} : soft (rowW r) = rowW r := rfl
theorem parents_ok (ok : Ok c) {r : Nam × List Nam} (hr : r ∈ c) (d : Nat) (s : G.ST) : callD pk.pg (d + 2) 6 [.lst (sw (nms c)), rowW r] s = .ok (.bl true) s := by
  rw [call_eq (df := ⟨2, 3, b_fits_parents⟩) rfl rfl]
  have hpl := ok.pl r hr
  have hu := unlike_tup d (ok.pnd r hr) (by omega) s
  have hc : evE pk.pg (callD pk.pg (d + 1)) (.lc (.v 2) (.itr (.ix (.var 1) (.k (.int 1)))) .nil (.and (.bi .isi (.cons (.var 2) (.cons (.k (.ty "str")) .nil))) (.and (.cmp .isin (.var 2) (.var 0)) (.cmp .ne (.var 2) (.ix (.var 1) (.k (.int 0)))))) [2]) [some (.lst (sw (nms c))), some (rowW r), none] s = .ok (.lst (r.2.map fun _ => .bl true)) s := by
    refine lc_mapL (f := W.str) (h := fun _ => .bl true) (by simp [bnd, G.ret, rd, opt, eS, item, seqI, seqL, ixOf, cmpop, biop, bInt, bLen, bList, bAbs, binop, big, asg, asgs, fits, line, wEq_str, wEq_int, wEq_bl, bIsi, isTy, soft_row, i1_row, -item, srcOf]) wstr_inj (fun y hy => ⟨[some (.lst (sw (nms c))), some (rowW r), some (.str y)], rfl, ?_⟩) (by show _ ≤ 16777216; omega)
    have hm := in_lst (y := y) (L := nms c) (s := s)
    simp only [ok.pin r hr y hy, decide_true] at hm
    have hne : (y == r.1) = false := by
      rw [beq_eq_false_iff_ne]
      intro e
      exact ok.pne r hr (e ▸ hy)
    have hcm := cmpop.eq_2 (.str y) (.str r.1) s
    simp [bnd, G.ret, rd, opt, eS, item, seqI, seqL, ixOf, cmpop, biop, bInt, bLen, bList, bAbs, binop, big, asg, asgs, fits, line, wEq_str, wEq_int, wEq_bl, bIsi, isTy, hm, -cmpop, soft_row, i0_row, -item, hcm, hne]
  have ha := all_true r.2 (s := s)
  generalize (r.2.map fun _ => W.bl true) = bs at hc ha
  simp [bnd, G.ret, rd, opt, eS, item, seqI, seqL, ixOf, cmpop, biop, bInt, bLen, bList, bAbs, binop, big, asg, asgs, fits, line, wEq_str, wEq_int, wEq_bl, bIsi, isTy, b_fits_parents, hc, ha, -biop, soft_row, i1_row, -item, hu]
theorem fits_ok (ok : Ok c) (hg : ∀ x ∈ nms c, GN x) (d : Nat) (s : G.ST) : callD pk.pg (d + 5) 7 [clsW c] s = .ok (.bl true) s := by
  rw [call_eq (df := ⟨1, 4, b_fits_classes⟩) rfl rfl]
  have hl := ok.len
  have hnl : (nms c).length = c.length := by unfold nms; rw [List.length_map]
  have h0 : callD pk.pg (d + 4) 0 [clsW c, .int 0, .int 20] s = .ok (.bl true) s := row_okH (d + 3) (c.map rowW) 0 20 (by omega) (by rw [List.length_map]; omega) s
  have hg4 : pk.pg.consts[4]? = some (.int 20) := rfl
  have c1 : evE pk.pg (callD pk.pg (d + 4)) (.lc (.v 2) (.itr (.var 0)) .nil (.and (.call 0 (.cons (.var 2) (.cons (.k (.int 2)) (.cons (.k (.int 2)) .nil)))) (.call 4 (.cons (.ix (.var 2) (.k (.int 0))) .nil))) [2]) [some (clsW c), none, none, none] s = .ok (.lst (c.map fun _ => .bl true)) s := by
    refine lc_mapL (f := rowW) (h := fun _ => .bl true) (by simp [bnd, G.ret, rd, opt, eS, item, seqI, seqL, ixOf, cmpop, biop, bInt, bLen, bList, bAbs, binop, big, asg, asgs, fits, line, wEq_str, wEq_int, wEq_bl, bIsi, isTy, srcOf]) rowW_inj (fun r hr => ⟨[some (clsW c), none, some (rowW r), none], rfl, ?_⟩) (by show _ ≤ 16777216; omega)
    have h1 : callD pk.pg (d + 4) 0 [rowW r, .int 2, .int 2] s = .ok (.bl true) s := row_ok (d + 3) [.str r.1, .tup (sw r.2)] 2 2 (by simp [bnd, G.ret, rd, opt, eS, item, seqI, seqL, ixOf, cmpop, biop, bInt, bLen, bList, bAbs, binop, big, asg, asgs, fits, line, wEq_str, wEq_int, wEq_bl, bIsi, isTy]) (by simp [bnd, G.ret, rd, opt, eS, item, seqI, seqL, ixOf, cmpop, biop, bInt, bLen, bList, bAbs, binop, big, asg, asgs, fits, line, wEq_str, wEq_int, wEq_bl, bIsi, isTy]) s
    have h2 := (hg r.1 (List.mem_map_of_mem (f := fun r : Nam × List Nam => r.1) hr)).fit d s
    simp [bnd, G.ret, rd, opt, eS, item, seqI, seqL, ixOf, cmpop, biop, bInt, bLen, bList, bAbs, binop, big, asg, asgs, fits, line, wEq_str, wEq_int, wEq_bl, bIsi, isTy, h1, soft_row, i0_row, -item, h2]
  have a1 := all_true c (s := s)
  have c2 : evE pk.pg (callD pk.pg (d + 4)) (.lc (.v 2) (.itr (.var 0)) .nil (.ix (.var 2) (.k (.int 0))) [2]) [some (clsW c), none, none, none] s = .ok (.lst (sw (nms c))) s := by
    unfold nms sw
    rw [List.map_map]
    exact lc_mapL (f := rowW) (h := fun r => .str r.1) (by simp [bnd, G.ret, rd, opt, eS, item, seqI, seqL, ixOf, cmpop, biop, bInt, bLen, bList, bAbs, binop, big, asg, asgs, fits, line, wEq_str, wEq_int, wEq_bl, bIsi, isTy, srcOf]) rowW_inj (fun r hr => ⟨[some (clsW c), none, some (rowW r), none], rfl, by simp [bnd, G.ret, rd, opt, eS, item, seqI, seqL, ixOf, cmpop, biop, bInt, bLen, bList, bAbs, binop, big, asg, asgs, fits, line, wEq_str, wEq_int, wEq_bl, bIsi, isTy, soft_row, i0_row, -item]⟩) (by show _ ≤ 16777216; omega)
  have u1 := unlike_lst (d + 3) ok.nd (by omega) s
  have c3 : evE pk.pg (callD pk.pg (d + 4)) (.lc (.v 3) (.itr (.var 1)) .nil (.cmp .isin (.var 3) (.glob 3)) [3]) [some (clsW c), some (.lst (sw (nms c))), none, none] s = .ok (.lst ((nms c).map fun _ => .bl false)) s := by
    refine lc_mapL (f := W.str) (h := fun _ => .bl false) (by simp [bnd, G.ret, rd, opt, eS, item, seqI, seqL, ixOf, cmpop, biop, bInt, bLen, bList, bAbs, binop, big, asg, asgs, fits, line, wEq_str, wEq_int, wEq_bl, bIsi, isTy, srcOf]) wstr_inj (fun x hx => ⟨[some (clsW c), some (.lst (sw (nms c))), none, some (.str x)], rfl, ?_⟩) (by show _ ≤ 16777216; omega)
    have hm : cmpop .isin (.str x) (.tup (sw told)) s = some false := by rw [in_tup, decide_eq_false (hg x hx).not]
    have ht := told_c
    generalize sw told = tl at hm ht
    simp [bnd, G.ret, rd, opt, eS, item, seqI, seqL, ixOf, cmpop, biop, bInt, bLen, bList, bAbs, binop, big, asg, asgs, fits, line, wEq_str, wEq_int, wEq_bl, bIsi, isTy, ht, hm, -cmpop]
  have a2 := any_false (nms c) (s := s)
  have c4 : evE pk.pg (callD pk.pg (d + 4)) (.lc (.v 2) (.itr (.var 0)) .nil (.and (.call 0 (.cons (.ix (.var 2) (.k (.int 1))) (.cons (.k (.int 0)) (.cons (.k (.int 4)) .nil)))) (.call 6 (.cons (.var 1) (.cons (.var 2) .nil)))) [2]) [some (clsW c), some (.lst (sw (nms c))), none, none] s = .ok (.lst (c.map fun _ => .bl true)) s := by
    refine lc_mapL (f := rowW) (h := fun _ => .bl true) (by simp [bnd, G.ret, rd, opt, eS, item, seqI, seqL, ixOf, cmpop, biop, bInt, bLen, bList, bAbs, binop, big, asg, asgs, fits, line, wEq_str, wEq_int, wEq_bl, bIsi, isTy, srcOf]) rowW_inj (fun r hr => ⟨[some (clsW c), some (.lst (sw (nms c))), some (rowW r), none], rfl, ?_⟩) (by show _ ≤ 16777216; omega)
    have hpl := ok.pl r hr
    have h1 := row_ok (d + 3) (sw r.2) 0 4 (by omega) (by rw [sw_len]; omega) s
    have h2 := parents_ok ok hr (d + 2) s
    generalize sw (nms c) = nn at h2
    simp [bnd, G.ret, rd, opt, eS, item, seqI, seqL, ixOf, cmpop, biop, bInt, bLen, bList, bAbs, binop, big, asg, asgs, fits, line, wEq_str, wEq_int, wEq_bl, bIsi, isTy, soft_row, i1_row, -item, h1, h2]
  generalize (c.map fun _ => W.bl true) = bs at c1 c4 a1
  generalize ((nms c).map fun _ => W.bl false) = fs at c3 a2
  generalize sw (nms c) = nn at c2 c3 c4 u1
  simp [bnd, G.ret, rd, opt, eS, item, seqI, seqL, ixOf, cmpop, biop, bInt, bLen, bList, bAbs, binop, big, asg, asgs, fits, line, wEq_str, wEq_int, wEq_bl, bIsi, isTy, b_fits_classes, hg4, h0, c1, a1, -biop, c2, u1, c3, a2, c4]
theorem classes_ok (ok : Ok c) (hg : ∀ x ∈ nms c, GN x) (d : Nat) (s : G.ST) : callD pk.pg (d + 6) 17 [clsW c] s = .ok (.bl true) s := by
  rw [call_eq (df := ⟨1, 1, b_is_classes⟩) rfl rfl]
  simp [bnd, G.ret, rd, opt, eS, item, seqI, seqL, ixOf, cmpop, biop, bInt, bLen, bList, bAbs, binop, big, asg, asgs, fits, line, wEq_str, wEq_int, wEq_bl, bIsi, isTy, b_is_classes, fits_ok ok hg d s]
theorem need_ok (ok : Ok c) (hg : ∀ x ∈ nms c, GN x) (d : Nat) (s : G.ST) : callD pk.pg (d + 6) 14 [clsW c] s = .ok .non s := by
  rw [call_eq (df := ⟨1, 1, b_need_classes⟩) rfl rfl]
  simp [bnd, G.ret, rd, opt, eS, item, seqI, seqL, ixOf, cmpop, biop, bInt, bLen, bList, bAbs, binop, big, asg, asgs, fits, line, wEq_str, wEq_int, wEq_bl, bIsi, isTy, b_need_classes, fits_ok ok hg d s]
theorem need1_ok (hn : n ∈ nms c) (d : Nat) (s : G.ST) : callD pk.pg (d + 1) 16 [.lst (sw (nms c)), .str n] s = .ok .non s := by
  rw [call_eq (df := ⟨2, 2, b_need_class⟩) rfl rfl]
  have hm : cmpop .notin (.str n) (.lst (sw (nms c))) s = some false := by rw [notin_lst, decide_eq_true hn]; rfl
  generalize sw (nms c) = nn at hm
  simp [bnd, G.ret, rd, opt, eS, item, seqI, seqL, ixOf, cmpop, biop, bInt, bLen, bList, bAbs, binop, big, asg, asgs, fits, line, wEq_str, wEq_int, wEq_bl, bIsi, isTy, b_need_class, hm, -cmpop]
theorem names_ev {call : Nat → List W → M W} {e1 : Option W} (hl : c.length ≤ 20) (s : G.ST) : evE pk.pg call (.lc (.v 2) (.itr (.var 0)) .nil (.ix (.var 2) (.k (.int 0))) [2]) [some (clsW c), e1, none] s = .ok (.lst (sw (nms c))) s := by
  unfold nms sw
  rw [List.map_map]
  exact lc_mapL (f := rowW) (h := fun r => .str r.1) (by simp [bnd, G.ret, rd, opt, eS, item, seqI, seqL, ixOf, cmpop, biop, bInt, bLen, bList, bAbs, binop, big, asg, asgs, fits, line, wEq_str, wEq_int, wEq_bl, bIsi, isTy, srcOf]) rowW_inj (fun r hr => ⟨[some (clsW c), e1, some (rowW r)], rfl, by simp [bnd, G.ret, rd, opt, eS, item, seqI, seqL, ixOf, cmpop, biop, bInt, bLen, bList, bAbs, binop, big, asg, asgs, fits, line, wEq_str, wEq_int, wEq_bl, bIsi, isTy, soft_row, i0_row, -item]⟩) (by show _ ≤ 16777216; omega)
theorem preco_ok (ok : Ok c) (hg : ∀ x ∈ nms c, GN x) (hn : n ∈ nms c) (d : Nat) (s : G.ST) : callD pk.pg (d + 7) 18 [clsW c, .str n] s = .ok (optW (prec c n)) s := by
  rw [call_eq (df := ⟨2, 3, b_precedence_of⟩) rfl rfl]
  have h1 := need_ok ok hg d s
  have h2 := names_ev (call := callD pk.pg (d + 6)) (c := c) (e1 := some (.str n)) ok.len s
  have h3 := need1_ok hn (d + 5) s
  have h4 := prec_ok ok hn (d + 3) s
  generalize sw (nms c) = nn at h2 h3
  simp [bnd, G.ret, rd, opt, eS, item, seqI, seqL, ixOf, cmpop, biop, bInt, bLen, bList, bAbs, binop, big, asg, asgs, fits, line, wEq_str, wEq_int, wEq_bl, bIsi, isTy, b_precedence_of, h1, h2, h3, h4]
end
end K18

set_option Elab.async false
set_option linter.all false
set_option autoImplicit false
set_option maxRecDepth 100000
set_option maxHeartbeats 4000000
namespace K18
open G Pr
def six : List Nam := [[112], [113], [114], [115], [118], [119]]
def a20 : Nam := [97, 97, 97, 97, 97, 97, 97, 97, 97, 97, 97, 97, 97, 97, 97, 97, 97, 97, 97, 97]
def a21 : Nam := [97, 97, 97, 97, 97, 97, 97, 97, 97, 97, 97, 97, 97, 97, 97, 97, 97, 97, 97, 97, 97]
/-- n0 .. n20 -/
def ns21 : List Nam := [[110, 48], [110, 49], [110, 50], [110, 51], [110, 52], [110, 53], [110, 54], [110, 55], [110, 56], [110, 57], [110, 49, 48], [110, 49, 49], [110, 49, 50], [110, 49, 51], [110, 49, 52], [110, 49, 53], [110, 49, 54], [110, 49, 55], [110, 49, 56], [110, 49, 57], [110, 50, 48]]
def yes : List Nam := six ++ ns21 ++ [[111, 98, 106, 101, 99, 116], [99, 111, 110, 115], a20, [42, 112, 42], [45], [49, 43]]
def no : List Nam := [[116], [110, 105, 108], [58, 120], [43, 49], [49, 50], a21, [65], []]
def lawB (b : Bool) (x : Nam) : Bool := b && !decide (x ∈ told)
structure NT (x : Nam) (b : Bool) : Prop where
  fit : ∀ d s, callD pk.pg (d + 4) 4 [.str x] s = .ok (.bl b) s
  law : ∀ d s, callD pk.pg (d + 1) 31 [.str x] s = .ok (.bl (lawB b x)) s
theorem nt_six : ∀ x ∈ six, NT x true := by
  intro x hx
  simp only [six, List.mem_cons, List.not_mem_nil, or_false] at hx
  rcases hx with rfl | rfl | rfl | rfl | rfl | rfl
  all_goals exact ⟨fun d s => by kernel_rfl, fun d s => by kernel_rfl⟩
theorem nt_ns : ∀ x ∈ ns21, NT x true := by
  intro x hx
  simp only [ns21, List.mem_cons, List.not_mem_nil, or_false] at hx
  rcases hx with rfl | rfl | rfl | rfl | rfl | rfl | rfl | rfl | rfl | rfl | rfl | rfl | rfl | rfl | rfl | rfl | rfl | rfl | rfl | rfl | rfl
  all_goals exact ⟨fun d s => by kernel_rfl, fun d s => by kernel_rfl⟩
theorem nt_yes : ∀ x ∈ yes, NT x true := by
  intro x hx
  unfold yes at hx
  rcases List.mem_append.mp hx with hx | hx
  · rcases List.mem_append.mp hx with hx | hx
    · exact nt_six x hx
    · exact nt_ns x hx
  · simp only [List.mem_cons, List.not_mem_nil, or_false] at hx
    rcases hx with rfl | rfl | rfl | rfl | rfl | rfl
    all_goals exact ⟨fun d s => by kernel_rfl, fun d s => by kernel_rfl⟩
theorem nt_no : ∀ x ∈ no, NT x false := by
  intro x hx
  simp only [no, List.mem_cons, List.not_mem_nil, or_false] at hx
  rcases hx with rfl | rfl | rfl | rfl | rfl | rfl | rfl | rfl
  all_goals exact ⟨fun d s => by kernel_rfl, fun d s => by kernel_rfl⟩
/-- a text that is a name, by this table -/
def nb (x : Nam) : Bool := decide (x ∈ yes)
theorem yes_no : ∀ x ∈ no, x ∉ yes := by decide +kernel
theorem nt {x : Nam} (h : x ∈ yes ∨ x ∈ no) : NT x (nb x) := by
  unfold nb
  rcases h with h | h
  · rw [decide_eq_true h]; exact nt_yes x h
  · rw [decide_eq_false (yes_no x h)]; exact nt_no x h
theorem six_told : ∀ x ∈ six, x ∉ told := by decide +kernel
theorem gn_six : ∀ x ∈ six, GN x := fun x hx => ⟨(nt_six x hx).fit, six_told x hx⟩
end K18

set_option Elab.async false
set_option linter.all false
set_option autoImplicit false
set_option maxRecDepth 100000
set_option maxHeartbeats 4000000
namespace K18
open G Pr
theorem d20 : pk.pg.defs[25]? = some ⟨2, 4, rollB⟩ := rfl
theorem d21 : pk.pg.defs[26]? = some ⟨2, 2, someB 25⟩ := rfl
theorem d22 : pk.pg.defs[27]? = some ⟨2, 4, shufB 25⟩ := rfl
def unS : W → Nam
  | .str l => l
  | _ => []
theorem perm_sw {ys : List W} {L : List Nam} (h : ys.Perm (sw L)) : ∃ qs, ys = sw qs ∧ qs.Perm L := by
  refine ⟨ys.map unS, ?_, ?_⟩
  · unfold sw
    rw [List.map_map]
    have : ∀ y ∈ ys, (W.str ∘ unS) y = y := fun y hy => by
      obtain ⟨l, _, e⟩ := List.mem_map.mp (h.mem_iff.mp hy)
      rw [← e]; rfl
    rw [List.map_congr_left this, List.map_id']
  · have := h.map unS
    unfold sw at this
    rw [List.map_map] at this
    have e : (unS ∘ W.str) = id := rfl
    rw [e, List.map_id] at this
    exact this
def unR : W → Nam × List Nam
  | .tup [.str a, .tup ps] => (a, ps.map unS)
  | _ => ([], [])
theorem unR_row (r : Nam × List Nam) : unR (rowW r) = r := by
  obtain ⟨a, ps⟩ := r
  simp only [rowW, unR, sw, List.map_map]
  have e : (unS ∘ W.str) = id := rfl
  rw [e, List.map_id]
theorem perm_row {ys : List W} {c : Cl} (h : ys.Perm (c.map rowW)) : ∃ c' : Cl, ys = c'.map rowW ∧ c'.Perm c := by
  refine ⟨ys.map unR, ?_, ?_⟩
  · rw [List.map_map]
    have : ∀ y ∈ ys, (rowW ∘ unR) y = y := fun y hy => by
      obtain ⟨r, _, e⟩ := List.mem_map.mp (h.mem_iff.mp hy)
      rw [← e]
      simp only [Function.comp, unR_row]
    rw [List.map_congr_left this, List.map_id']
  · have := h.map unR
    rw [List.map_map] at this
    have e : (unR ∘ rowW) = id := funext unR_row
    rw [e, List.map_id] at this
    exact this
/-- a valid book's rows in another order -/
theorem ok_perm {c c' : Cl} (ok : Ok c) (h : c'.Perm c) : Ok c' := by
  have hn : (nms c').Perm (nms c) := h.map _
  exact ⟨hn.nodup_iff.mpr ok.nd, by rw [h.length_eq]; exact ok.len, fun r hr => ok.pnd r (h.mem_iff.mp hr), fun r hr p hp => hn.mem_iff.mpr (ok.pin r (h.mem_iff.mp hr) p hp), fun r hr => ok.pne r (h.mem_iff.mp hr), fun r hr => ok.pl r (h.mem_iff.mp hr)⟩
theorem cut_to {ys : List W} {j : Int} (hj : 0 ≤ j) : cut ys none (some j) = ys.take (min j.toNat ys.length) := by
  have h : ¬ j < 0 := by omega
  simp only [cut, cutIx, h, if_false, List.drop_zero, Nat.sub_zero]
/-- parents drawn from a row -/
theorem draw_ev {d : Nat} {env : Env} {e ke : E} {L : List Nam} {ks : List W} (h0 : env[0]? = some (some (.ref 0))) (he : ∀ s, evE pk.pg (callD pk.pg (d + 2)) e env s = .ok (.lst (sw L)) s) (hk : ∀ s, evE pk.pg (callD pk.pg (d + 2)) ke env s = .ok (.lst ks) s)
    (hks : ∀ x ∈ ks, ∃ j : Int, x = .int j ∧ 0 ≤ j ∧ j ≤ 3) (hk0 : 0 < ks.length) (hkl : ks.length < 1000) (hL : L.Nodup) (hl : L.length < 1000) (a b : Int) (t : G.ST) :
    ∃ (qs : List Nam) (a' b' : Int) (t' : G.ST), evE pk.pg (callD pk.pg (d + 2)) (.sl (.call 27 (.cons (.var 0) (.cons e .nil))) .no (.itr (.call 26 (.cons (.var 0) (.cons ke .nil))))) env (cup a b t) = .ok (.lst (sw qs)) (cup a' b' (t ++ t')) ∧ qs.Nodup ∧ (∀ x ∈ qs, x ∈ L) ∧ qs.length ≤ 3 := by
  obtain ⟨ys, a1, b1, hp, h1⟩ := shuf_law (P := pk.pg) d20 d22 (by decide) d (.lst (sw L)) (sw L) a b t rfl (by rw [sw_len]; exact hl)
  obtain ⟨ws, rfl, hq⟩ := perm_sw hp
  obtain ⟨i, x, a2, b2, hx, h2⟩ := some_law (P := pk.pg) d20 d21 d ks a1 b1 (t ++ [[], sw ws]) hk0 hkl
  obtain ⟨j, rfl, hj0, hj3⟩ := hks x (List.mem_of_getElem? hx)
  refine ⟨ws.take (min j.toNat ws.length), a2, b2, [[], sw ws], ?_, (List.take_sublist _ _).nodup (hq.nodup_iff.mpr hL), fun y hy => hq.mem_iff.mp (List.mem_of_mem_take hy), ?_⟩
  · have hg : (cup a2 b2 (t ++ [[], sw ws]))[t.length + 2]? = some (sw ws) := by simp [bnd, G.ret, rd, opt, eS, item, seqI, seqL, ixOf, cmpop, biop, bInt, bLen, bList, bAbs, binop, big, asg, asgs, fits, line, wEq_str, wEq_int, wEq_bl, cup]
    have hs : slice (.ref (t.length + 2)) none (some j) (cup a2 b2 (t ++ [[], sw ws])) = some (.lst (sw (ws.take (min j.toNat ws.length)))) := by
      show (seqL _ _).map _ = _
      simp only [seqL, hg, Option.map_some, cut_to hj0, sw_len]
      simp [bnd, G.ret, rd, opt, eS, item, seqI, seqL, ixOf, cmpop, biop, bInt, bLen, bList, bAbs, binop, big, asg, asgs, fits, line, wEq_str, wEq_int, wEq_bl, sw, List.map_take]
    have e1 := he (cup a b t)
    have e2 := hk (cup a1 b1 (t ++ [[], sw ws]))
    generalize sw (ws.take (min j.toNat ws.length)) = r at hs
    generalize sw ws = sws at *
    generalize sw L = sl at *
    simp [bnd, G.ret, rd, opt, eS, item, seqI, seqL, ixOf, cmpop, biop, bInt, bLen, bList, bAbs, binop, big, asg, asgs, fits, line, wEq_str, wEq_int, wEq_bl, h0, e1, e2, h1, h2, hs]
  · rw [List.length_take]; omega
end K18

set_option Elab.async false
set_option linter.all false
set_option autoImplicit false
set_option maxRecDepth 100000
set_option maxHeartbeats 4000000
namespace K18
open G Pr
theorem enum_get {x : W} : ∀ {i j : Nat} {L : List Nam}, (enumW i (sw L))[j]? = some x → ∃ z, L[j]? = some z ∧ x = .tup [.int ((i + j : Nat) : Int), .str z]
  | i, j, [], h => by simp [bnd, G.ret, rd, opt, eS, item, seqI, seqL, ixOf, cmpop, biop, bInt, bLen, bList, bAbs, binop, big, asg, asgs, fits, line, wEq_str, wEq_int, wEq_bl, enumW] at h
  | i, 0, y :: L, h => by
    simp only [sw, List.map_cons, enumW, List.getElem?_cons_zero, Option.some.injEq] at h
    exact ⟨y, rfl, h.symm⟩
  | i, j + 1, y :: L, h => by
    simp only [sw, List.map_cons, enumW, List.getElem?_cons_succ] at h
    obtain ⟨z, h1, h2⟩ := enum_get (i := i + 1) (j := j) (L := L) h
    exact ⟨z, h1, by rw [h2, show i + 1 + j = i + (j + 1) from by omega]⟩
/-- rows drawn so far -/
structure Dr (N : List Nam) (j : Nat) (C : Cl) : Prop where
  nm : nms C = N.take j
  nd : ∀ r ∈ C, r.2.Nodup
  pin : ∀ r ∈ C, ∀ p ∈ r.2, p ∈ N
  pne : ∀ r ∈ C, r.1 ∉ r.2
  pl : ∀ r ∈ C, r.2.length ≤ 3
theorem Dr.step {N : List Nam} {j : Nat} {C : Cl} {z : Nam} {qs : List Nam} (h : Dr N j C) (hz : N[j]? = some z) (h1 : qs.Nodup) (h2 : ∀ p ∈ qs, p ∈ N) (h3 : z ∉ qs) (h4 : qs.length ≤ 3) : Dr N (j + 1) (C ++ [(z, qs)]) := by
  have k : ∀ {Q : Nam × List Nam → Prop}, (∀ r ∈ C, Q r) → Q (z, qs) → ∀ r ∈ C ++ [(z, qs)], Q r := fun a b r hr => by
    rcases List.mem_append.mp hr with e | e
    · exact a r e
    · rw [List.mem_singleton.mp e]; exact b
  refine ⟨?_, k h.nd h1, k h.pin h2, k h.pne h3, k h.pl h4⟩
  have := h.nm
  unfold nms at this ⊢
  rw [List.map_append, this, List.take_add_one, hz]
  rfl
theorem Dr.ok {N : List Nam} {C : Cl} (h : Dr N N.length C) (hn : N.Nodup) (hl : N.length ≤ 20) : Ok C := by
  have hm : nms C = N := by rw [h.nm, List.take_length]
  have hlen : C.length = N.length := by rw [← hm]; unfold nms; rw [List.length_map]
  exact ⟨by rw [hm]; exact hn, by omega, h.nd, fun r hr p hp => by rw [hm]; exact h.pin r hr p hp, h.pne, fun r hr => by have := h.pl r hr; omega⟩
def rst (a b : Int) (t : G.ST) (C : Cl) (J : G.ST) : G.ST := cup a b (t ++ (C.map rowW :: J))
theorem rst_at {a b : Int} {t : G.ST} {C : Cl} {J : G.ST} : (rst a b t C J)[t.length + 1]? = some (C.map rowW) := by
  unfold rst cup
  simp [bnd, G.ret, rd, opt, eS, item, seqI, seqL, ixOf, cmpop, biop, bInt, bLen, bList, bAbs, binop, big, asg, asgs, fits, line, wEq_str, wEq_int, wEq_bl]
theorem rst_app {a b : Int} {t : G.ST} {C : Cl} {J : G.ST} {r : Nam × List Nam} (h : C.length < line) : mApp (t.length + 1) (rowW r) (rst a b t C J) = .ok .non (rst a b t (C ++ [r]) J) := by
  unfold mApp
  rw [rst_at]
  simp only [List.length_map]
  rw [if_pos h]
  unfold rst cup
  simp [bnd, G.ret, rd, opt, eS, item, seqI, seqL, ixOf, cmpop, biop, bInt, bLen, bList, bAbs, binop, big, asg, asgs, fits, line, wEq_str, wEq_int, wEq_bl, List.set_append]
theorem not_drop {N : List Nam} {j : Nat} {z : Nam} (h : N.Nodup) (hz : N[j]? = some z) : z ∉ N.drop (j + 1) := fun q => by
  obtain ⟨k, hk⟩ := List.mem_iff_getElem?.mp q
  rw [List.getElem?_drop] at hk
  have := nodup_at h hz hk
  omega
theorem cut_from {ys : List W} {j : Nat} : cut ys (some ((j : Int) + 1)) none = ys.drop (j + 1) := by
  have h : ¬ ((j : Int) + 1) < 0 := by omega
  have e : ((j : Int) + 1).toNat = j + 1 := by omega
  simp only [cut, cutIx, h, if_false, e]
  rw [List.take_of_length_le (by rw [List.length_drop]; omega)]
  by_cases q : j + 1 ≤ ys.length
  · rw [Nat.min_eq_left q]
  · rw [Nat.min_eq_right (by omega), List.drop_of_length_le (Nat.le_refl _), List.drop_of_length_le (by omega)]
theorem wild_turn {d : Nat} {N : List Nam} (hN : N.Nodup) (hNl : N.length ≤ 6) {m : Int} {w : Bool} {o7 : Option W} {a b : Int} {t J : G.ST} {C : Cl} {j : Nat} {z : Nam} (hz : N[j]? = some z) (D : Dr N j C) :
    ∃ (o : Option W) (C' : Cl) (a' b' : Int) (J' : G.ST), evS pk.pg (callD pk.pg (d + 2)) (.seq (.asg (.v 7) (.ife (.var 4) (.lc (.v 8) (.itr (.var 2)) (.cons (.cmp .ne (.var 8) (.var 6)) .nil) (.var 8) [8]) (.sl (.var 2) (.itr (.bin .add (.var 5) (.k (.int 1)))) .no))) (.seq (.expr (.meth .append (.var 3) (.cons (.tup (.cons (.var 6) (.cons (.bi .tuple (.cons (.sl (.call 27 (.cons (.var 0) (.cons (.var 7) .nil))) .no (.itr (.call 26 (.cons (.var 0) (.cons (.lst (.cons (.k (.int 0)) (.cons (.k (.int 1)) (.cons (.k (.int 2)) (.cons (.k (.int 2)) (.cons (.k (.int 3)) .nil)))))) .nil))))) .nil)) .nil))) .nil))) .nil)) [some (.ref 0), some (.int m), some (.lst (sw N)), some (.ref (t.length + 1)), some (.bl w), some (.int j), some (.str z), o7, none] (rst a b t C J) =
      .ok .nx [some (.ref 0), some (.int m), some (.lst (sw N)), some (.ref (t.length + 1)), some (.bl w), some (.int j), some (.str z), o, none] (rst a' b' t C' J') ∧ Dr N (j + 1) C' := by
  have hzN := List.mem_of_getElem? hz
  obtain ⟨L, hL1, hL2, hL3, hev⟩ : ∃ L : List Nam, L.Nodup ∧ (∀ p ∈ L, p ∈ N) ∧ z ∉ L ∧ ∀ s, evE pk.pg (callD pk.pg (d + 2)) (.ife (.var 4) (.lc (.v 8) (.itr (.var 2)) (.cons (.cmp .ne (.var 8) (.var 6)) .nil) (.var 8) [8]) (.sl (.var 2) (.itr (.bin .add (.var 5) (.k (.int 1)))) .no)) [some (.ref 0), some (.int m), some (.lst (sw N)), some (.ref (t.length + 1)), some (.bl w), some (.int j), some (.str z), o7, none] s = .ok (.lst (sw L)) s := by
    cases w with
    | true =>
      refine ⟨drop1 N z, hN.filter _, fun p hp => (drop1_mem.mp hp).1, fun q => (drop1_mem.mp q).2 rfl, fun s => ?_⟩
      have hc : evE pk.pg (callD pk.pg (d + 2)) (.lc (.v 8) (.itr (.var 2)) (.cons (.cmp .ne (.var 8) (.var 6)) .nil) (.var 8) [8]) [some (.ref 0), some (.int m), some (.lst (sw N)), some (.ref (t.length + 1)), some (.bl true), some (.int j), some (.str z), o7, none] s = .ok (.lst (sw (drop1 N z))) s :=
        lc_filtL (f := W.str) (by simp [bnd, G.ret, rd, opt, eS, item, seqI, seqL, ixOf, cmpop, biop, bInt, bLen, bList, bAbs, binop, big, asg, asgs, fits, line, wEq_str, wEq_int, wEq_bl, srcOf]) wstr_inj (fun y _ => ⟨[some (.ref 0), some (.int m), some (.lst (sw N)), some (.ref (t.length + 1)), some (.bl true), some (.int j), some (.str z), o7, some (.str y)], by simp [bnd, G.ret, rd, opt, eS, item, seqI, seqL, ixOf, cmpop, biop, bInt, bLen, bList, bAbs, binop, big, asg, asgs, fits, line, wEq_str, wEq_int, wEq_bl, wipes], by
          cases q : y == z <;> simp [bnd, G.ret, rd, opt, eS, item, seqI, seqL, ixOf, cmpop, biop, bInt, bLen, bList, bAbs, binop, big, asg, asgs, fits, line, wEq_str, wEq_int, wEq_bl, q], fun _ => by simp [bnd, G.ret, rd, opt, eS, item, seqI, seqL, ixOf, cmpop, biop, bInt, bLen, bList, bAbs, binop, big, asg, asgs, fits, line, wEq_str, wEq_int, wEq_bl]⟩) (by show _ ≤ 16777216; omega)
      simp [bnd, G.ret, rd, opt, eS, item, seqI, seqL, ixOf, cmpop, biop, bInt, bLen, bList, bAbs, binop, big, asg, asgs, fits, line, wEq_str, wEq_int, wEq_bl, hc]
    | false =>
      refine ⟨N.drop (j + 1), (List.drop_sublist _ _).nodup hN, fun p hp => List.mem_of_mem_drop hp, not_drop hN hz, fun s => ?_⟩
      have hs : slice (.lst (sw N)) (some ((j : Int) + 1)) none s = some (.lst (sw (N.drop (j + 1)))) := by
        show (seqL s (.lst _)).map _ = _
        simp only [seqL, Option.map_some, cut_from]
        simp [bnd, G.ret, rd, opt, eS, item, seqI, seqL, ixOf, cmpop, biop, bInt, bLen, bList, bAbs, binop, big, asg, asgs, fits, line, wEq_str, wEq_int, wEq_bl, sw, List.map_drop]
      generalize sw N = sN at hs
      simp [bnd, G.ret, rd, opt, eS, item, seqI, seqL, ixOf, cmpop, biop, bInt, bLen, bList, bAbs, binop, big, asg, asgs, fits, line, wEq_str, wEq_int, wEq_bl, hs]
  have hLl : L.length ≤ 6 := by
    have := nodup_len hL1 hL2
    omega
  obtain ⟨qs, a', b', t', h1, h2, h3, h4⟩ := draw_ev (d := d) (env := [some (.ref 0), some (.int m), some (.lst (sw N)), some (.ref (t.length + 1)), some (.bl w), some (.int j), some (.str z), some (.lst (sw L)), none]) (e := .var 7) (ke := .lst (.cons (.k (.int 0)) (.cons (.k (.int 1)) (.cons (.k (.int 2)) (.cons (.k (.int 2)) (.cons (.k (.int 3)) .nil)))))) (L := L) (ks := [.int 0, .int 1, .int 2, .int 2, .int 3]) rfl (fun s => by simp [bnd, G.ret, rd, opt, eS, item, seqI, seqL, ixOf, cmpop, biop, bInt, bLen, bList, bAbs, binop, big, asg, asgs, fits, line, wEq_str, wEq_int, wEq_bl]) (fun s => by simp [bnd, G.ret, rd, opt, eS, item, seqI, seqL, ixOf, cmpop, biop, bInt, bLen, bList, bAbs, binop, big, asg, asgs, fits, line, wEq_str, wEq_int, wEq_bl])
    (by simp [bnd, G.ret, rd, opt, eS, item, seqI, seqL, ixOf, cmpop, biop, bInt, bLen, bList, bAbs, binop, big, asg, asgs, fits, line, wEq_str, wEq_int, wEq_bl]) (by simp [bnd, G.ret, rd, opt, eS, item, seqI, seqL, ixOf, cmpop, biop, bInt, bLen, bList, bAbs, binop, big, asg, asgs, fits, line, wEq_str, wEq_int, wEq_bl]) (by simp [bnd, G.ret, rd, opt, eS, item, seqI, seqL, ixOf, cmpop, biop, bInt, bLen, bList, bAbs, binop, big, asg, asgs, fits, line, wEq_str, wEq_int, wEq_bl]) hL1 (by omega) a b (t ++ (C.map rowW :: J))
  have hst : cup a' b' (t ++ (C.map rowW :: J) ++ t') = rst a' b' t C (J ++ t') := by unfold rst; simp [bnd, G.ret, rd, opt, eS, item, seqI, seqL, ixOf, cmpop, biop, bInt, bLen, bList, bAbs, binop, big, asg, asgs, fits, line, wEq_str, wEq_int, wEq_bl]
  rw [hst] at h1
  have hCl : C.length < line := by
    have := congrArg List.length D.nm
    unfold nms at this
    rw [List.length_map, List.length_take] at this
    show _ < 16777216
    omega
  have hap := rst_app (a := a') (b := b') (t := t) (J := J ++ t') (r := (z, qs)) hCl
  refine ⟨some (.lst (sw L)), C ++ [(z, qs)], a', b', J ++ t', ?_, D.step hz h2 (fun p hp => hL2 p (h3 p hp)) (fun q => hL3 (h3 z q)) h4⟩
  have hev := hev (rst a b t C J)
  have hrw : rowW (z, qs) = .tup [.str z, .tup (sw qs)] := rfl
  rw [hrw] at hap
  have htp : ∀ s, biop .tuple [.lst (sw qs)] s = some (.tup (sw qs)) := fun s => rfl
  have hr : rst a b t C J = cup a b (t ++ (C.map rowW :: J)) := rfl
  rw [← hr] at h1
  generalize rst a b t C J = s0 at *
  generalize rst a' b' t C (J ++ t') = s1 at *
  generalize rst a' b' t (C ++ [(z, qs)]) (J ++ t') = s2 at *
  generalize sw qs = sq at *
  simp [bnd, G.ret, rd, opt, eS, item, seqI, seqL, ixOf, cmpop, biop, bInt, bLen, bList, bAbs, binop, big, asg, asgs, fits, line, wEq_str, wEq_int, wEq_bl, hev, h1, htp, -biop, Me.isL, meL, hap]
end K18

set_option Elab.async false
set_option linter.all false
set_option autoImplicit false
set_option maxRecDepth 100000
set_option maxHeartbeats 4000000
namespace K18
open G Pr
theorem slice_to {L : List Nam} {m : Int} (h : 0 ≤ m) {s : G.ST} : slice (.lst (sw L)) none (some m) s = some (.lst (sw (L.take (min m.toNat L.length)))) := by
  show (seqL s (.lst _)).map _ = _
  simp only [seqL, Option.map_some, cut_to h, sw_len]
  simp [bnd, G.ret, rd, opt, eS, item, seqI, seqL, ixOf, cmpop, biop, bInt, bLen, bList, bAbs, binop, big, asg, asgs, fits, line, wEq_str, wEq_int, wEq_bl, sw, List.map_take]
theorem six_slice {m : Int} (h1 : 1 ≤ m) (h2 : m ≤ 6) (s : G.ST) : ∃ N : List Nam, 0 < N.length ∧ N.Nodup ∧ N.length ≤ 6 ∧ (∀ x ∈ N, x ∈ six) ∧ slice (.lst (sw six)) none (some m) s = some (.lst (sw N)) := by
  refine ⟨six.take (min m.toNat six.length), by rw [List.length_take]; have : six.length = 6 := rfl; omega, (List.take_sublist _ _).nodup (by decide), by rw [List.length_take]; have : six.length = 6 := rfl; omega, fun x hx => List.mem_of_mem_take hx, slice_to (by omega)⟩
/-- a drawn book's rows shuffled, made a tuple -/
theorem shuffled_ev {d : Nat} {env : Env} {e : E} {m : Nat} {C : Cl} (h0 : env[0]? = some (some (.ref 0))) {a b : Int} {t : G.ST} (he : evE pk.pg (callD pk.pg (d + 2)) e env (cup a b t) = .ok (.ref m) (cup a b t)) (hm : (cup a b t)[m]? = some (C.map rowW)) (hl : C.length < 1000) :
    ∃ (c : Cl) (a' b' : Int) (t' : G.ST), c.Perm C ∧ evE pk.pg (callD pk.pg (d + 2)) (.bi .htuple (.cons (.call 27 (.cons (.var 0) (.cons e .nil))) .nil)) env (cup a b t) = .ok (clsW c) (cup a' b' (t ++ t')) := by
  obtain ⟨ys, a1, b1, hp, h1⟩ := shuf_law (P := pk.pg) d20 d22 (by decide) d (.ref m) (C.map rowW) a b t (by simp only [bList, seqI, hm, Option.map_some]) (by rw [List.length_map]; exact hl)
  obtain ⟨c, rfl, hq⟩ := perm_row hp
  refine ⟨c, a1, b1, [[], c.map rowW], hq, ?_⟩
  have hg : (cup a1 b1 (t ++ [[], c.map rowW]))[t.length + 2]? = some (c.map rowW) := by simp [bnd, G.ret, rd, opt, eS, item, seqI, seqL, ixOf, cmpop, biop, bInt, bLen, bList, bAbs, binop, big, asg, asgs, fits, line, wEq_str, wEq_int, wEq_bl, cup]
  have ht : biop .htuple [.ref (t.length + 2)] (cup a1 b1 (t ++ [[], c.map rowW])) = some (clsW c) := by
    show (seqL _ _).map _ = _
    simp only [seqL, hg, Option.map_some]
    rfl
  generalize cup a1 b1 (t ++ [[], c.map rowW]) = s1 at *
  generalize cup a b t = s0 at *
  simp [bnd, G.ret, rd, opt, eS, item, seqI, seqL, ixOf, cmpop, biop, bInt, bLen, bList, bAbs, binop, big, asg, asgs, fits, line, wEq_str, wEq_int, wEq_bl, h0, he, h1, ht, -biop]
theorem wild_ok {d : Nat} {m : Int} (h1 : 1 ≤ m) (h2 : m ≤ 6) (a b : Int) (t : G.ST) : ∃ (c : Cl) (a' b' : Int) (t' : G.ST), callD pk.pg (d + 3) 28 [.ref 0, .int m] (cup a b t) = .ok (clsW c) (cup a' b' (t ++ t')) ∧ Ok c ∧ (0 < c.length ∧ c.length ≤ 6) ∧ ∀ x ∈ nms c, x ∈ six := by
  obtain ⟨N, hN0, hN, hNl, hN6, hsl⟩ := six_slice h1 h2 (cup a b t)
  obtain ⟨k, a1, b1, hk1, hk2, hr⟩ := roll_law (P := pk.pg) d20 (d + 1) 3 a b (t ++ [[]]) (by omega) (by omega)
  obtain ⟨env', s', hfor, o5, o6, o7, a2, b2, J2, C2, he, hs, D⟩ := for_inv (P := pk.pg) (call := callD pk.pg (d + 2)) (env := [some (.ref 0), some (.int m), some (.lst (sw N)), some (.ref (t.length + 1)), some (.bl (k == 0)), none, none, none, none]) (t := .cons (.v 5) (.cons (.v 6) .nil)) (it := (.enum (.var 2))) (b := (.seq (.asg (.v 7) (.ife (.var 4) (.lc (.v 8) (.itr (.var 2)) (.cons (.cmp .ne (.var 8) (.var 6)) .nil) (.var 8) [8]) (.sl (.var 2) (.itr (.bin .add (.var 5) (.k (.int 1)))) .no))) (.seq (.expr (.meth .append (.var 3) (.cons (.tup (.cons (.var 6) (.cons (.bi .tuple (.cons (.sl (.call 27 (.cons (.var 0) (.cons (.var 7) .nil))) .no (.itr (.call 26 (.cons (.var 0) (.cons (.lst (.cons (.k (.int 0)) (.cons (.k (.int 1)) (.cons (.k (.int 2)) (.cons (.k (.int 2)) (.cons (.k (.int 3)) .nil)))))) .nil))))) .nil)) .nil))) .nil))) .nil))) (s := cup a1 b1 (t ++ [[]])) (s' := cup a1 b1 (t ++ [[]])) (xs := enumW 0 (sw N))
    (by simp [bnd, G.ret, rd, opt, eS, item, seqI, seqL, ixOf, cmpop, biop, bInt, bLen, bList, bAbs, binop, big, asg, asgs, fits, line, wEq_str, wEq_int, wEq_bl, srcEnum])
    (fun j env s => ∃ o5 o6 o7 a b J C, env = [some (.ref 0), some (.int m), some (.lst (sw N)), some (.ref (t.length + 1)), some (.bl (k == 0)), o5, o6, o7, none] ∧ s = rst a b t C J ∧ Dr N j C)
    ⟨none, none, none, a1, b1, [], [], rfl, rfl, ⟨rfl, by simp [bnd, G.ret, rd, opt, eS, item, seqI, seqL, ixOf, cmpop, biop, bInt, bLen, bList, bAbs, binop, big, asg, asgs, fits, line, wEq_str, wEq_int, wEq_bl], by simp [bnd, G.ret, rd, opt, eS, item, seqI, seqL, ixOf, cmpop, biop, bInt, bLen, bList, bAbs, binop, big, asg, asgs, fits, line, wEq_str, wEq_int, wEq_bl], by simp [bnd, G.ret, rd, opt, eS, item, seqI, seqL, ixOf, cmpop, biop, bInt, bLen, bList, bAbs, binop, big, asg, asgs, fits, line, wEq_str, wEq_int, wEq_bl], by simp [bnd, G.ret, rd, opt, eS, item, seqI, seqL, ixOf, cmpop, biop, bInt, bLen, bList, bAbs, binop, big, asg, asgs, fits, line, wEq_str, wEq_int, wEq_bl]⟩⟩
    (fun j x env s hj ⟨o5, o6, o7, a, b, J, C, he, hs, D⟩ => by
      subst he
      subst hs
      obtain ⟨z, hz, rfl⟩ := enum_get hj
      rw [Nat.zero_add]
      obtain ⟨o, C', a', b', J', e, D'⟩ := wild_turn (d := d) hN hNl (m := m) (w := k == 0) (o7 := o7) (a := a) (b := b) (t := t) (J := J) hz D
      exact ⟨_, _, _, by simp [bnd, G.ret, rd, opt, eS, item, seqI, seqL, ixOf, cmpop, biop, bInt, bLen, bList, bAbs, binop, big, asg, asgs, fits, line, wEq_str, wEq_int, wEq_bl], e, some (.int j), some (.str z), o, a', b', J', C', rfl, rfl, D'⟩)
  subst he
  subst hs
  rw [enum_len, sw_len] at D
  have ok := D.ok hN (by omega)
  have hnm : nms C2 = N := by rw [D.nm, List.take_length]
  have hcl : ∀ {c : Cl}, c.Perm C2 → 0 < c.length ∧ c.length ≤ 6 := fun {c} hp => by
    have h2 : C2.length = N.length := by rw [← hnm]; unfold nms; rw [List.length_map]
    rw [hp.length_eq]
    omega
  obtain ⟨c, a3, b3, t3, hp, hsh⟩ := shuffled_ev (d := d) (env := [some (.ref 0), some (.int m), some (.lst (sw N)), some (.ref (t.length + 1)), some (.bl (k == 0)), o5, o6, o7, none]) (e := .var 3) (m := t.length + 1) (C := C2) rfl (a := a2) (b := b2) (t := t ++ (C2.map rowW :: J2)) (by simp [bnd, G.ret, rd, opt, eS, item, seqI, seqL, ixOf, cmpop, biop, bInt, bLen, bList, bAbs, binop, big, asg, asgs, fits, line, wEq_str, wEq_int, wEq_bl]) rst_at (by have := ok.len; omega)
  refine ⟨c, a3, b3, (C2.map rowW :: J2) ++ t3, ?_, ok_perm ok hp, hcl hp, fun x hx => hN6 x (by rw [← hnm]; exact (hp.map _).mem_iff.mp hx)⟩
  rw [call_eq (df := ⟨2, 9, b__law_wild⟩) rfl rfl]
  have hsix : (W.lst (sw six)) = .lst [.str [112], .str [113], .str [114], .str [115], .str [118], .str [119]] := rfl
  rw [hsix] at hsl
  have hst : cup a3 b3 (t ++ (C2.map rowW :: J2) ++ t3) = cup a3 b3 (t ++ ((C2.map rowW :: J2) ++ t3)) := by simp [bnd, G.ret, rd, opt, eS, item, seqI, seqL, ixOf, cmpop, biop, bInt, bLen, bList, bAbs, binop, big, asg, asgs, fits, line, wEq_str, wEq_int, wEq_bl]
  rw [hst] at hsh
  have hrs : rst a2 b2 t C2 J2 = cup a2 b2 (t ++ (C2.map rowW :: J2)) := rfl
  rw [← hrs] at hsh
  have hr2 : callD pk.pg (d + 2) 25 [.ref 0, .int 3] ([.int a, .int b] :: (t ++ [[]])) = .ok (.int k) (cup a1 b1 (t ++ [[]])) := hr
  generalize rst a2 b2 t C2 J2 = s2 at *
  generalize cup a3 b3 (t ++ ((C2.map rowW :: J2) ++ t3)) = s3 at *
  generalize cup a1 b1 (t ++ [[]]) = s1 at *
  generalize sw N = sN at *
  simp [bnd, G.ret, rd, opt, eS, item, seqI, seqL, ixOf, cmpop, biop, bInt, bLen, bList, bAbs, binop, big, asg, asgs, fits, line, wEq_str, wEq_int, wEq_bl, b__law_wild, hsl, hr2, hfor, hsh, -x_bi_htuple]
end K18

set_option Elab.async false
set_option linter.all false
set_option autoImplicit false
set_option maxRecDepth 100000
set_option maxHeartbeats 4000000
namespace K18
open G Pr
/-- plain values -/
inductive Dat : W → Prop
  | non : Dat .non
  | bl (b : Bool) : Dat (.bl b)
  | int (i : Int) : Dat (.int i)
  | str (x : Nam) : Dat (.str x)
  | tup (l : List W) : Dat (.tup l)
  | lst (l : List W) : Dat (.lst l)
def rowB (w : W) (lo hi : Int) : Bool := match w with
  | .tup xs => decide (lo ≤ xs.length) && decide ((xs.length : Int) ≤ hi)
  | _ => false
theorem row_of {w : W} (h : Dat w) (d : Nat) (lo hi : Int) (s : G.ST) : callD pk.pg (d + 1) 0 [w, .int lo, .int hi] s = .ok (.bl (rowB w lo hi)) s := by
  rw [call_eq (df := ⟨3, 3, b_is_row_of⟩) rfl rfl]
  cases h with
  | tup l =>
    by_cases h1 : lo ≤ (l.length : Int)
    · simp [bnd, G.ret, rd, opt, eS, item, seqI, seqL, ixOf, cmpop, biop, bInt, bLen, bList, bAbs, binop, big, asg, asgs, fits, line, wEq_str, wEq_int, wEq_bl, bIsi, isTy, b_is_row_of, rowB, h1]
    · simp [bnd, G.ret, rd, opt, eS, item, seqI, seqL, ixOf, cmpop, biop, bInt, bLen, bList, bAbs, binop, big, asg, asgs, fits, line, wEq_str, wEq_int, wEq_bl, bIsi, isTy, b_is_row_of, rowB, h1]
  | _ => simp [bnd, G.ret, rd, opt, eS, item, seqI, seqL, ixOf, cmpop, biop, bInt, bLen, bList, bAbs, binop, big, asg, asgs, fits, line, wEq_str, wEq_int, wEq_bl, bIsi, isTy, b_is_row_of, rowB]
theorem row_law {w : W} (h : Dat w) (d : Nat) (lo hi : Int) (s : G.ST) : callD pk.pg (d + 1) 30 [w, .int lo, .int hi] s = .ok (.bl (rowB w lo hi)) s := by
  rw [call_eq (df := ⟨3, 3, b__law_is_row⟩) rfl rfl]
  cases h with
  | tup l =>
    by_cases h1 : lo ≤ (l.length : Int)
    · simp [bnd, G.ret, rd, opt, eS, item, seqI, seqL, ixOf, cmpop, biop, bInt, bLen, bList, bAbs, binop, big, asg, asgs, fits, line, wEq_str, wEq_int, wEq_bl, bIsi, isTy, b__law_is_row, rowB, h1]
    · simp [bnd, G.ret, rd, opt, eS, item, seqI, seqL, ixOf, cmpop, biop, bInt, bLen, bList, bAbs, binop, big, asg, asgs, fits, line, wEq_str, wEq_int, wEq_bl, bIsi, isTy, b__law_is_row, rowB, h1]
  | _ => simp [bnd, G.ret, rd, opt, eS, item, seqI, seqL, ixOf, cmpop, biop, bInt, bLen, bList, bAbs, binop, big, asg, asgs, fits, line, wEq_str, wEq_int, wEq_bl, bIsi, isTy, b__law_is_row, rowB]
def nmB : W → Bool
  | .str x => nb x
  | _ => false
def toldB : W → Bool
  | .str x => decide (x ∈ told)
  | _ => false
def Nm1 (w : W) : Prop := ∀ x, w = .str x → x ∈ yes ∨ x ∈ no
theorem name1 {w : W} (h : Dat w) (hn : Nm1 w) (d : Nat) (s : G.ST) : callD pk.pg (d + 4) 4 [w] s = .ok (.bl (nmB w)) s := by
  cases h with
  | str x => exact (nt (hn x rfl)).fit d s
  | _ => kernel_rfl
theorem name2 {w : W} (h : Dat w) (hn : Nm1 w) (d : Nat) (s : G.ST) : callD pk.pg (d + 1) 31 [w] s = .ok (.bl (nmB w && !toldB w)) s := by
  cases h with
  | str x => exact (nt (hn x rfl)).law d s
  | _ => kernel_rfl
/-! len(set(texts)) -/
theorem unl_le : ∀ {ks seen : List Nam}, unl seen ks ≤ ks.length
  | [], _ => Nat.le_refl _
  | k :: ks, seen => by
    have := unl_le (ks := ks) (seen := seen ++ [k])
    simp only [unl, List.length_cons]
    split <;> omega
theorem unl_eq : ∀ {ks seen : List Nam}, unl seen ks = ks.length → ks.Nodup ∧ ∀ k ∈ ks, k ∉ seen
  | [], _, _ => ⟨List.nodup_nil, by simp [bnd, G.ret, rd, opt, eS, item, seqI, seqL, ixOf, cmpop, biop, bInt, bLen, bList, bAbs, binop, big, asg, asgs, fits, line, wEq_str, wEq_int, wEq_bl, bIsi, isTy]⟩
  | k :: ks, seen, h => by
    have h1 := unl_le (ks := ks) (seen := seen ++ [k])
    simp only [unl, List.length_cons] at h
    by_cases hk : k ∈ seen
    · rw [if_pos hk] at h; omega
    · rw [if_neg hk] at h
      obtain ⟨a, b⟩ := unl_eq (ks := ks) (seen := seen ++ [k]) (by omega)
      refine ⟨List.nodup_cons.mpr ⟨fun q => b k q (by simp [bnd, G.ret, rd, opt, eS, item, seqI, seqL, ixOf, cmpop, biop, bInt, bLen, bList, bAbs, binop, big, asg, asgs, fits, line, wEq_str, wEq_int, wEq_bl, bIsi, isTy]), a⟩, fun x hx => ?_⟩
      rcases List.mem_cons.mp hx with rfl | hx
      · exact hk
      · exact fun q => b x hx (List.mem_append_left _ q)
theorem unl_dec {ks : List Nam} : ((unl [] ks : Int) == (ks.length : Int)) = decide ks.Nodup := by
  by_cases h : ks.Nodup
  · rw [unl_nd (by simpa [bnd, G.ret, rd, opt, eS, item, seqI, seqL, ixOf, cmpop, biop, bInt, bLen, bList, bAbs, binop, big, asg, asgs, fits, line, wEq_str, wEq_int, wEq_bl, bIsi, isTy] using h), decide_eq_true h]; simp [bnd, G.ret, rd, opt, eS, item, seqI, seqL, ixOf, cmpop, biop, bInt, bLen, bList, bAbs, binop, big, asg, asgs, fits, line, wEq_str, wEq_int, wEq_bl, bIsi, isTy]
  · rw [decide_eq_false h]
    simp only [beq_eq_false_iff_ne, ne_eq]
    intro e
    exact h (unl_eq (ks := ks) (seen := []) (by omega)).1
theorem lensL {l : List Nam} (hl : l.length < 4000) {s : G.ST} : biop .lenset [.lst (sw l)] s = some (.int (unl [] l)) := by
  show bUnl s [.lst (sw l)] = _
  simp only [bUnl, seqI, Option.bind_some, strsW_map]
  rw [if_pos hl]
theorem lensT {l : List Nam} (hl : l.length < 4000) {s : G.ST} : biop .lenset [.tup (sw l)] s = some (.int (unl [] l)) := by
  show bUnl s [.tup (sw l)] = _
  simp only [bUnl, seqI, Option.bind_some, strsW_map]
  rw [if_pos hl]
theorem unlikeL (d : Nat) {l : List Nam} (hl : l.length < 4000) (s : G.ST) : callD pk.pg (d + 1) 5 [.lst (sw l)] s = .ok (.bl (decide l.Nodup)) s := by
  rw [call_eq (df := ⟨1, 1, b_are_unlike⟩) rfl rfl, ← unl_dec]
  have h1 := lensL hl (s := s)
  have h2 : biop .len [.lst (sw l)] s = some (.int l.length) := by simp [bnd, G.ret, rd, opt, eS, item, seqI, seqL, ixOf, cmpop, biop, bInt, bLen, bList, bAbs, binop, big, asg, asgs, fits, line, wEq_str, wEq_int, wEq_bl, bIsi, isTy, sw_len]
  generalize sw l = sl at h1 h2
  simp [bnd, G.ret, rd, opt, eS, item, seqI, seqL, ixOf, cmpop, biop, bInt, bLen, bList, bAbs, binop, big, asg, asgs, fits, line, wEq_str, wEq_int, wEq_bl, bIsi, isTy, b_are_unlike, h1, h2, -biop]
theorem unlikeT (d : Nat) {l : List Nam} (hl : l.length < 4000) (s : G.ST) : callD pk.pg (d + 1) 5 [.tup (sw l)] s = .ok (.bl (decide l.Nodup)) s := by
  rw [call_eq (df := ⟨1, 1, b_are_unlike⟩) rfl rfl, ← unl_dec]
  have h1 := lensT hl (s := s)
  have h2 : biop .len [.tup (sw l)] s = some (.int l.length) := by simp [bnd, G.ret, rd, opt, eS, item, seqI, seqL, ixOf, cmpop, biop, bInt, bLen, bList, bAbs, binop, big, asg, asgs, fits, line, wEq_str, wEq_int, wEq_bl, bIsi, isTy, sw_len]
  generalize sw l = sl at h1 h2
  simp [bnd, G.ret, rd, opt, eS, item, seqI, seqL, ixOf, cmpop, biop, bInt, bLen, bList, bAbs, binop, big, asg, asgs, fits, line, wEq_str, wEq_int, wEq_bl, bIsi, isTy, b_are_unlike, h1, h2, -biop]
/-! all, any of tests -/
theorem all_bl {α : Type} (l : List α) (q : α → Bool) {s : G.ST} : biop .all [.lst (l.map fun c => .bl (q c))] s = some (.bl (l.all q)) := by
  show bBools s (fun bs => bs.all id) [.lst (l.map fun c => .bl (q c))] = _
  have h := boolsW_map (l := l) (q := q)
  simp only [bBools, seqL, Option.bind_some, h, Option.map_some]
  congr 2
  rw [List.all_map]
  rfl
theorem any_bl {α : Type} (l : List α) (q : α → Bool) {s : G.ST} : biop .any [.lst (l.map fun c => .bl (q c))] s = some (.bl (l.any q)) := by
  show bBools s (fun bs => bs.any id) [.lst (l.map fun c => .bl (q c))] = _
  have h := boolsW_map (l := l) (q := q)
  simp only [bBools, seqL, Option.bind_some, h, Option.map_some]
  congr 2
  rw [List.any_map]
  rfl
/-! what a row of classes is -/
def rw2 (p : Nam × W) : W := .tup [.str p.1, p.2]
theorem rw2_inj : ∀ a b : Nam × W, rw2 a = rw2 b → a = b := fun ⟨a, p⟩ ⟨b, q⟩ h => by
  simp only [rw2, W.tup.injEq, List.cons.injEq, W.str.injEq, and_true] at h
  obtain ⟨rfl, rfl⟩ := h
  rfl
def In1 (r : W) : Prop := Dat r ∧ ∀ l, r = .tup l → (∀ a ∈ l, Dat a) ∧ (∀ a b, l = [a, b] → Nm1 a ∧ ∀ ps, b = .tup ps → ∀ p ∈ ps, Dat p)
def InV (v : W) : Prop := Dat v ∧ ∀ rows, v = .tup rows → ∀ r ∈ rows, In1 r
def parOk (names : List Nam) (x : Nam) (w : W) : Prop := ∃ qs : List Nam, w = .tup (sw qs) ∧ qs.length ≤ 4 ∧ qs.Nodup ∧ ∀ y ∈ qs, y ∈ names ∧ y ≠ x
structure Good (rows : List W) (R : List (Nam × W)) : Prop where
  len : rows.length ≤ 20
  eq : rows = R.map rw2
  nm : ∀ p ∈ R, nb p.1 = true ∧ p.1 ∉ told
  nd : (R.map (·.1)).Nodup
  par : ∀ p ∈ R, parOk (R.map (·.1)) p.1 p.2
def GoodV (v : W) : Prop := ∃ rows R, v = .tup rows ∧ Good rows R
def it0 : W → W
  | .tup (a :: _) => a
  | _ => .non
/-- one parent -/
def oneB (names : List Nam) (x : Nam) : W → Bool
  | .str y => decide (y ∈ names) && !(y == x)
  | _ => false
theorem all_strs {names : List Nam} {x : Nam} : ∀ {ps : List W}, ps.all (oneB names x) = true → ∃ qs : List Nam, ps = sw qs ∧ ∀ y ∈ qs, y ∈ names ∧ y ≠ x
  | [], _ => ⟨[], rfl, by simp [bnd, G.ret, rd, opt, eS, item, seqI, seqL, ixOf, cmpop, biop, bInt, bLen, bList, bAbs, binop, big, asg, asgs, fits, line, wEq_str, wEq_int, wEq_bl, bIsi, isTy]⟩
  | p :: ps, h => by
    simp only [List.all_cons, Bool.and_eq_true] at h
    obtain ⟨qs, e, hq⟩ := all_strs h.2
    cases p with
    | str y =>
      have h1 := h.1
      simp only [oneB, Bool.and_eq_true, decide_eq_true_eq, Bool.not_eq_true', beq_eq_false_iff_ne] at h1
      refine ⟨y :: qs, by rw [e]; rfl, fun z hz => ?_⟩
      rcases List.mem_cons.mp hz with rfl | hz
      · exact h1
      · exact hq z hz
    | _ => cases h.1
theorem strs_all {names : List Nam} {x : Nam} {qs : List Nam} (h : ∀ y ∈ qs, y ∈ names ∧ y ≠ x) : (sw qs).all (oneB names x) = true := by
  rw [List.all_eq_true]
  intro w hw
  obtain ⟨y, hy, rfl⟩ := List.mem_map.mp hw
  have := h y hy
  simp [bnd, G.ret, rd, opt, eS, item, seqI, seqL, ixOf, cmpop, biop, bInt, bLen, bList, bAbs, binop, big, asg, asgs, fits, line, wEq_str, wEq_int, wEq_bl, bIsi, isTy, oneB, this.1, this.2]
theorem rows_of : ∀ {rows : List W}, (∀ r ∈ rows, rowB r 2 2 = true ∧ nmB (it0 r) = true) → ∃ R : List (Nam × W), rows = R.map rw2 ∧ ∀ p ∈ R, nb p.1 = true
  | [], _ => ⟨[], rfl, by simp [bnd, G.ret, rd, opt, eS, item, seqI, seqL, ixOf, cmpop, biop, bInt, bLen, bList, bAbs, binop, big, asg, asgs, fits, line, wEq_str, wEq_int, wEq_bl, bIsi, isTy]⟩
  | r :: rows, h => by
    obtain ⟨R, e, hR⟩ := rows_of (rows := rows) fun q hq => h q (List.mem_cons_of_mem r hq)
    obtain ⟨h1, h2⟩ := h r List.mem_cons_self
    cases r <;> try (cases h1; done)
    rename_i xs
    simp only [rowB, Bool.and_eq_true, decide_eq_true_eq] at h1
    match xs, h1, h2 with
    | [], h1, _ => simp [bnd, G.ret, rd, opt, eS, item, seqI, seqL, ixOf, cmpop, biop, bInt, bLen, bList, bAbs, binop, big, asg, asgs, fits, line, wEq_str, wEq_int, wEq_bl, bIsi, isTy] at h1
    | [a], h1, _ => simp [bnd, G.ret, rd, opt, eS, item, seqI, seqL, ixOf, cmpop, biop, bInt, bLen, bList, bAbs, binop, big, asg, asgs, fits, line, wEq_str, wEq_int, wEq_bl, bIsi, isTy] at h1
    | a :: b :: c :: t, h1, _ => simp only [List.length_cons] at h1; omega
    | [a, b], _, h2 =>
      cases a with
      | str y =>
        exact ⟨(y, b) :: R, by rw [e]; rfl, fun p hp => by
          rcases List.mem_cons.mp hp with rfl | hp
          · exact h2
          · exact hR p hp⟩
      | _ => cases h2
end K18

set_option Elab.async false
set_option linter.all false
set_option autoImplicit false
set_option maxRecDepth 100000
set_option maxHeartbeats 4000000
namespace K18
open G Pr
theorem i0_rw {p : Nam × W} {s : G.ST} : item (rw2 p) (.int 0) s = some (.str p.1) := rfl
theorem i1_rw {p : Nam × W} {s : G.ST} : item (rw2 p) (.int 1) s = some p.2 := rfl
theorem soft_rw {p : Nam × W} : soft (rw2 p) = rw2 p := rfl
/-- one parent, looked at -/
theorem one_ev {call : Nat → List W → M W} {names : List Nam} {p : Nam × W} {o : W} (h : Dat o) (s : G.ST) :
    evE pk.pg call (.and (.bi .isi (.cons (.var 2) (.cons (.k (.ty "str")) .nil))) (.and (.cmp .isin (.var 2) (.var 0)) (.cmp .ne (.var 2) (.ix (.var 1) (.k (.int 0)))))) [some (.lst (sw names)), some (rw2 p), some o] s = .ok (.bl (oneB names p.1 o)) s := by
  cases h with
  | str y =>
    have hm : cmpop .isin (.str y) (.lst (sw names)) s = some (decide (y ∈ names)) := in_lst
    have hcm := cmpop.eq_2 (.str y) (.str p.1) s
    generalize sw names = nn at hm
    by_cases h1 : y ∈ names
    · simp [bnd, G.ret, rd, opt, eS, item, seqI, seqL, ixOf, cmpop, biop, bInt, bLen, bList, bAbs, binop, big, asg, asgs, fits, line, wEq_str, wEq_int, wEq_bl, bIsi, isTy, hm, -cmpop, soft_rw, i0_rw, -item, hcm, oneB, h1]
    · simp [bnd, G.ret, rd, opt, eS, item, seqI, seqL, ixOf, cmpop, biop, bInt, bLen, bList, bAbs, binop, big, asg, asgs, fits, line, wEq_str, wEq_int, wEq_bl, bIsi, isTy, hm, -cmpop, soft_rw, i0_rw, -item, hcm, oneB, h1]
  | _ => simp [bnd, G.ret, rd, opt, eS, item, seqI, seqL, ixOf, cmpop, biop, bInt, bLen, bList, bAbs, binop, big, asg, asgs, fits, line, wEq_str, wEq_int, wEq_bl, bIsi, isTy, oneB]
def parB (names : List Nam) (x : Nam) : W → Bool
  | .tup ps => ps.all (oneB names x) && (match strsW ps with
    | some qs => decide qs.Nodup
    | none => false)
  | _ => false
theorem parents_gen {names : List Nam} {p : Nam × W} {ps : List W} (hp : p.2 = .tup ps) (hd : ∀ q ∈ ps, Dat q) (hl : ps.length ≤ 4) (d : Nat) (s : G.ST) : callD pk.pg (d + 2) 6 [.lst (sw names), rw2 p] s = .ok (.bl (parB names p.1 p.2)) s := by
  rw [call_eq (df := ⟨2, 3, b_fits_parents⟩) rfl rfl]
  have hc : evE pk.pg (callD pk.pg (d + 1)) (.lc (.v 2) (.itr (.ix (.var 1) (.k (.int 1)))) .nil (.and (.bi .isi (.cons (.var 2) (.cons (.k (.ty "str")) .nil))) (.and (.cmp .isin (.var 2) (.var 0)) (.cmp .ne (.var 2) (.ix (.var 1) (.k (.int 0)))))) [2]) [some (.lst (sw names)), some (rw2 p), none] s = .ok (.lst (ps.map fun o => .bl (oneB names p.1 o))) s := by
    refine lc_mapL (l := ps) (f := fun w => w) (h := fun o => .bl (oneB names p.1 o)) (by rw [List.map_id']; simp [bnd, G.ret, rd, opt, eS, item, seqI, seqL, ixOf, cmpop, biop, bInt, bLen, bList, bAbs, binop, big, asg, asgs, fits, line, wEq_str, wEq_int, wEq_bl, bIsi, isTy, soft_rw, i1_rw, -item, hp, srcOf]) (fun a b h => h) (fun y hy => ⟨[some (.lst (sw names)), some (rw2 p), some y], rfl, one_ev (hd y hy) s⟩) (by show _ ≤ 16777216; omega)
  have ha := all_bl ps (oneB names p.1) (s := s)
  generalize (ps.map fun o => W.bl (oneB names p.1 o)) = bs at hc ha
  by_cases hall : ps.all (oneB names p.1) = true
  · obtain ⟨qs, hq, _⟩ := all_strs hall
    rw [hall] at ha
    have hu := unlikeT d (l := qs) (by have : qs.length = ps.length := by rw [hq, sw_len]
                                       omega) s
    rw [← hq] at hu
    have hB : parB names p.1 p.2 = decide qs.Nodup := by
      rw [hp]
      simp only [parB, hall, Bool.true_and]
      rw [hq, strsW_map]
    rw [hB]
    generalize sw names = nn at hc
    simp [bnd, G.ret, rd, opt, eS, item, seqI, seqL, ixOf, cmpop, biop, bInt, bLen, bList, bAbs, binop, big, asg, asgs, fits, line, wEq_str, wEq_int, wEq_bl, bIsi, isTy, b_fits_parents, hc, ha, -biop, soft_rw, i1_rw, hp, -item, hu]
  · have hf : ps.all (oneB names p.1) = false := by simpa [bnd, G.ret, rd, opt, eS, item, seqI, seqL, ixOf, cmpop, biop, bInt, bLen, bList, bAbs, binop, big, asg, asgs, fits, line, wEq_str, wEq_int, wEq_bl, bIsi, isTy] using hall
    rw [hf] at ha
    have hB : parB names p.1 p.2 = false := by
      rw [hp]
      simp only [parB, hf, Bool.false_and]
    rw [hB]
    generalize sw names = nn at hc
    simp [bnd, G.ret, rd, opt, eS, item, seqI, seqL, ixOf, cmpop, biop, bInt, bLen, bList, bAbs, binop, big, asg, asgs, fits, line, wEq_str, wEq_int, wEq_bl, bIsi, isTy, b_fits_parents, hc, ha, -biop]
theorem par_iff {names : List Nam} {x : Nam} {w : W} : (rowB w 0 4 && parB names x w) = true ↔ parOk names x w := by
  constructor
  · intro h
    cases w <;> try (cases h; done)
    rename_i ps
    simp only [Bool.and_eq_true, rowB, decide_eq_true_eq, parB] at h
    obtain ⟨⟨_, h1⟩, h2, h3⟩ := h
    obtain ⟨qs, rfl, hq⟩ := all_strs h2
    rw [strsW_map] at h3
    simp only [decide_eq_true_eq] at h3
    rw [sw_len] at h1
    exact ⟨qs, rfl, by omega, h3, hq⟩
  · rintro ⟨qs, rfl, h1, h2, h3⟩
    have h4 := strs_all h3
    have h5 : (qs.length : Int) ≤ 4 := by omega
    simp only [rowB, parB, h4, strsW_map, h2, decide_true, sw_len, h5, Bool.and_true, Bool.true_and]
    simp [bnd, G.ret, rd, opt, eS, item, seqI, seqL, ixOf, cmpop, biop, bInt, bLen, bList, bAbs, binop, big, asg, asgs, fits, line, wEq_str, wEq_int, wEq_bl, bIsi, isTy]
/-- fits_classes of any plain value -/
theorem fits_gen {v : W} (hv : InV v) (d : Nat) (s : G.ST) : ∃ b : Bool, (b = true ↔ GoodV v) ∧ callD pk.pg (d + 5) 7 [v] s = .ok (.bl b) s := by
  have hg4 : pk.pg.consts[4]? = some (.int 20) := rfl
  have h0 : callD pk.pg (d + 4) 0 [v, .int 0, .int 20] s = .ok (.bl (rowB v 0 20)) s := row_of hv.1 (d + 3) 0 20 s
  rw [call_eq (df := ⟨1, 4, b_fits_classes⟩) rfl rfl]
  by_cases hr : rowB v 0 20 = true
  · obtain ⟨rows, rfl, hl⟩ : ∃ rows, v = .tup rows ∧ rows.length ≤ 20 := by
      cases v <;> try (cases hr; done)
      rename_i rows
      simp only [rowB, Bool.and_eq_true, decide_eq_true_eq] at hr
      exact ⟨rows, rfl, by omega⟩
    rw [hr] at h0
    have hin := hv.2 rows rfl
    have c1 : evE pk.pg (callD pk.pg (d + 4)) (.lc (.v 2) (.itr (.var 0)) .nil (.and (.call 0 (.cons (.var 2) (.cons (.k (.int 2)) (.cons (.k (.int 2)) .nil)))) (.call 4 (.cons (.ix (.var 2) (.k (.int 0))) .nil))) [2]) [some (.tup rows), none, none, none] s = .ok (.lst (rows.map fun r => .bl (rowB r 2 2 && nmB (it0 r)))) s := by
      refine lc_mapL (l := rows) (f := fun w => w) (h := fun r => .bl (rowB r 2 2 && nmB (it0 r))) (by rw [List.map_id']; simp [bnd, G.ret, rd, opt, eS, item, seqI, seqL, ixOf, cmpop, biop, bInt, bLen, bList, bAbs, binop, big, asg, asgs, fits, line, wEq_str, wEq_int, wEq_bl, bIsi, isTy, srcOf]) (fun a b h => h) (fun r hr => ⟨[some (.tup rows), none, some r, none], rfl, ?_⟩) (by show _ ≤ 16777216; omega)
      have hi := hin r hr
      have h1 : callD pk.pg (d + 4) 0 [r, .int 2, .int 2] s = .ok (.bl (rowB r 2 2)) s := row_of hi.1 (d + 3) 2 2 s
      by_cases hb : rowB r 2 2 = true
      · obtain ⟨a, b, rfl⟩ : ∃ a b, r = .tup [a, b] := by
          cases r <;> try (cases hb; done)
          rename_i xs
          simp only [rowB, Bool.and_eq_true, decide_eq_true_eq] at hb
          match xs, hb with
          | [], h => simp [bnd, G.ret, rd, opt, eS, item, seqI, seqL, ixOf, cmpop, biop, bInt, bLen, bList, bAbs, binop, big, asg, asgs, fits, line, wEq_str, wEq_int, wEq_bl, bIsi, isTy] at h
          | [a], h => simp [bnd, G.ret, rd, opt, eS, item, seqI, seqL, ixOf, cmpop, biop, bInt, bLen, bList, bAbs, binop, big, asg, asgs, fits, line, wEq_str, wEq_int, wEq_bl, bIsi, isTy] at h
          | a :: b :: c :: t, h => simp only [List.length_cons] at h; omega
          | [a, b], _ => exact ⟨a, b, rfl⟩
        obtain ⟨h2, h3⟩ := hi.2 _ rfl
        have h4 := name1 (h2 a (by simp [bnd, G.ret, rd, opt, eS, item, seqI, seqL, ixOf, cmpop, biop, bInt, bLen, bList, bAbs, binop, big, asg, asgs, fits, line, wEq_str, wEq_int, wEq_bl, bIsi, isTy])) (h3 a b rfl).1 d s
        rw [hb] at h1
        have e0 : item (.tup [a, b]) (.int 0) s = some a := rfl
        simp [bnd, G.ret, rd, opt, eS, item, seqI, seqL, ixOf, cmpop, biop, bInt, bLen, bList, bAbs, binop, big, asg, asgs, fits, line, wEq_str, wEq_int, wEq_bl, bIsi, isTy, h1, e0, -item, h4, hb, it0]
      · have hb : rowB r 2 2 = false := by simpa [bnd, G.ret, rd, opt, eS, item, seqI, seqL, ixOf, cmpop, biop, bInt, bLen, bList, bAbs, binop, big, asg, asgs, fits, line, wEq_str, wEq_int, wEq_bl, bIsi, isTy] using hb
        rw [hb] at h1
        simp [bnd, G.ret, rd, opt, eS, item, seqI, seqL, ixOf, cmpop, biop, bInt, bLen, bList, bAbs, binop, big, asg, asgs, fits, line, wEq_str, wEq_int, wEq_bl, bIsi, isTy, h1, hb]
    have a1 := all_bl rows (fun r => rowB r 2 2 && nmB (it0 r)) (s := s)
    by_cases hall : rows.all (fun r => rowB r 2 2 && nmB (it0 r)) = true
    · rw [hall] at a1
      obtain ⟨R, rfl, hR⟩ := rows_of (rows := rows) (fun r hr => by simpa [bnd, G.ret, rd, opt, eS, item, seqI, seqL, ixOf, cmpop, biop, bInt, bLen, bList, bAbs, binop, big, asg, asgs, fits, line, wEq_str, wEq_int, wEq_bl, bIsi, isTy] using List.all_eq_true.mp hall r hr)
      have hRl : R.length ≤ 20 := by rw [List.length_map] at hl; exact hl
      have hnl : (R.map (·.1)).length = R.length := List.length_map _
      have c2 : evE pk.pg (callD pk.pg (d + 4)) (.lc (.v 2) (.itr (.var 0)) .nil (.ix (.var 2) (.k (.int 0))) [2]) [some (.tup (R.map rw2)), none, none, none] s = .ok (.lst (sw (R.map (·.1)))) s := by
        unfold sw
        rw [List.map_map]
        exact lc_mapL (f := rw2) (h := fun r => .str r.1) (by simp [bnd, G.ret, rd, opt, eS, item, seqI, seqL, ixOf, cmpop, biop, bInt, bLen, bList, bAbs, binop, big, asg, asgs, fits, line, wEq_str, wEq_int, wEq_bl, bIsi, isTy, srcOf]) rw2_inj (fun r hr => ⟨[some (.tup (R.map rw2)), none, some (rw2 r), none], rfl, by simp [bnd, G.ret, rd, opt, eS, item, seqI, seqL, ixOf, cmpop, biop, bInt, bLen, bList, bAbs, binop, big, asg, asgs, fits, line, wEq_str, wEq_int, wEq_bl, bIsi, isTy, soft_rw, i0_rw, -item]⟩) (by show _ ≤ 16777216; omega)
      have u1 := unlikeL (d + 3) (l := R.map (·.1)) (by omega) s
      have c3 : evE pk.pg (callD pk.pg (d + 4)) (.lc (.v 3) (.itr (.var 1)) .nil (.cmp .isin (.var 3) (.glob 3)) [3]) [some (.tup (R.map rw2)), some (.lst (sw (R.map (·.1)))), none, none] s = .ok (.lst ((R.map (·.1)).map fun x => .bl (decide (x ∈ told)))) s := by
        refine lc_mapL (f := W.str) (h := fun x => .bl (decide (x ∈ told))) (by simp [bnd, G.ret, rd, opt, eS, item, seqI, seqL, ixOf, cmpop, biop, bInt, bLen, bList, bAbs, binop, big, asg, asgs, fits, line, wEq_str, wEq_int, wEq_bl, bIsi, isTy, srcOf]) wstr_inj (fun x hx => ⟨[some (.tup (R.map rw2)), some (.lst (sw (R.map (·.1)))), none, some (.str x)], rfl, ?_⟩) (by show _ ≤ 16777216; omega)
        have hm : cmpop .isin (.str x) (.tup (sw told)) s = some (decide (x ∈ told)) := in_tup
        have ht := told_c
        generalize sw told = tl at hm ht
        simp [bnd, G.ret, rd, opt, eS, item, seqI, seqL, ixOf, cmpop, biop, bInt, bLen, bList, bAbs, binop, big, asg, asgs, fits, line, wEq_str, wEq_int, wEq_bl, bIsi, isTy, ht, hm, -cmpop]
      have a2 := any_bl (R.map (·.1)) (fun x => decide (x ∈ told)) (s := s)
      have c4 : evE pk.pg (callD pk.pg (d + 4)) (.lc (.v 2) (.itr (.var 0)) .nil (.and (.call 0 (.cons (.ix (.var 2) (.k (.int 1))) (.cons (.k (.int 0)) (.cons (.k (.int 4)) .nil)))) (.call 6 (.cons (.var 1) (.cons (.var 2) .nil)))) [2]) [some (.tup (R.map rw2)), some (.lst (sw (R.map (·.1)))), none, none] s = .ok (.lst (R.map fun p => .bl (rowB p.2 0 4 && parB (R.map (·.1)) p.1 p.2))) s := by
        have key : ∀ r ∈ R, ∃ env', asg (.v 2) (rw2 r) (wipes [some (.tup (R.map rw2)), some (.lst (sw (R.map (·.1)))), none, none] [2]) = some env' ∧ evE pk.pg (callD pk.pg (d + 4)) (.and (.call 0 (.cons (.ix (.var 2) (.k (.int 1))) (.cons (.k (.int 0)) (.cons (.k (.int 4)) .nil)))) (.call 6 (.cons (.var 1) (.cons (.var 2) .nil)))) env' s = .ok (.bl (rowB r.2 0 4 && parB (R.map (·.1)) r.1 r.2)) s := by
          intro r hr
          refine ⟨[some (.tup (R.map rw2)), some (.lst (sw (R.map (·.1)))), some (rw2 r), none], rfl, ?_⟩
          have hi := (hin (rw2 r) (List.mem_map_of_mem (f := rw2) hr)).2 _ rfl
          have hdr : Dat r.2 := hi.1 r.2 (by simp [bnd, G.ret, rd, opt, eS, item, seqI, seqL, ixOf, cmpop, biop, bInt, bLen, bList, bAbs, binop, big, asg, asgs, fits, line, wEq_str, wEq_int, wEq_bl, bIsi, isTy])
          have h1 : callD pk.pg (d + 4) 0 [r.2, .int 0, .int 4] s = .ok (.bl (rowB r.2 0 4)) s := row_of hdr (d + 3) 0 4 s
          by_cases hb : rowB r.2 0 4 = true
          · obtain ⟨ps, hps, hpl⟩ : ∃ ps, r.2 = .tup ps ∧ ps.length ≤ 4 := by
              generalize r.2 = w at hb
              cases w <;> try (cases hb; done)
              rename_i ps
              simp only [rowB, Bool.and_eq_true, decide_eq_true_eq] at hb
              exact ⟨ps, rfl, by omega⟩
            have h2 := parents_gen (names := R.map (·.1)) (p := r) hps ((hi.2 _ _ rfl).2 ps hps) hpl (d + 2) s
            rw [hb] at h1
            generalize parB (R.map (·.1)) r.1 r.2 = pb at h2
            generalize sw (R.map (·.1)) = nn at h2
            generalize R.map rw2 = rr
            simp [bnd, G.ret, rd, opt, eS, item, seqI, seqL, ixOf, cmpop, biop, bInt, bLen, bList, bAbs, binop, big, asg, asgs, fits, line, wEq_str, wEq_int, wEq_bl, bIsi, isTy, soft_rw, i1_rw, -item, h1, h2, hb]
          · have hb : rowB r.2 0 4 = false := by simpa [bnd, G.ret, rd, opt, eS, item, seqI, seqL, ixOf, cmpop, biop, bInt, bLen, bList, bAbs, binop, big, asg, asgs, fits, line, wEq_str, wEq_int, wEq_bl, bIsi, isTy] using hb
            rw [hb] at h1
            generalize parB (R.map (·.1)) r.1 r.2 = pb
            generalize sw (R.map (·.1)) = nn
            generalize R.map rw2 = rr
            simp [bnd, G.ret, rd, opt, eS, item, seqI, seqL, ixOf, cmpop, biop, bInt, bLen, bList, bAbs, binop, big, asg, asgs, fits, line, wEq_str, wEq_int, wEq_bl, bIsi, isTy, soft_rw, i1_rw, -item, h1, hb]
        exact lc_mapL (l := R) (f := rw2) (by simp [bnd, G.ret, rd, opt, eS, item, seqI, seqL, ixOf, cmpop, biop, bInt, bLen, bList, bAbs, binop, big, asg, asgs, fits, line, wEq_str, wEq_int, wEq_bl, bIsi, isTy, srcOf]) rw2_inj key (by show _ ≤ 16777216; omega)
      have a3 := all_bl R (fun p => rowB p.2 0 4 && parB (R.map (·.1)) p.1 p.2) (s := s)
      refine ⟨decide (R.map (·.1)).Nodup && !(R.map (·.1)).any (fun x => decide (x ∈ told)) && R.all (fun p => rowB p.2 0 4 && parB (R.map (·.1)) p.1 p.2), ?_, ?_⟩
      · constructor
        · intro h
          simp only [Bool.and_eq_true, decide_eq_true_eq, Bool.not_eq_true', List.any_eq_false, List.all_eq_true] at h
          obtain ⟨⟨h1, h2⟩, h3⟩ := h
          exact ⟨_, R, rfl, hl, rfl, fun p hp => ⟨hR p hp, by simpa [bnd, G.ret, rd, opt, eS, item, seqI, seqL, ixOf, cmpop, biop, bInt, bLen, bList, bAbs, binop, big, asg, asgs, fits, line, wEq_str, wEq_int, wEq_bl, bIsi, isTy] using h2 p.1 (List.mem_map_of_mem (f := fun p : Nam × W => p.1) hp)⟩, h1, fun p hp => par_iff.mp (by simpa [bnd, G.ret, rd, opt, eS, item, seqI, seqL, ixOf, cmpop, biop, bInt, bLen, bList, bAbs, binop, big, asg, asgs, fits, line, wEq_str, wEq_int, wEq_bl, bIsi, isTy] using h3 p hp)⟩
        · rintro ⟨rows', R', e, g⟩
          cases e
          have eR : R' = R := by
            have := g.eq
            exact ((List.map_inj_right rw2_inj).mp this).symm
          subst eR
          simp only [Bool.and_eq_true, decide_eq_true_eq, Bool.not_eq_true', List.any_eq_false, List.all_eq_true]
          refine ⟨⟨g.nd, fun x hx => ?_⟩, fun p hp => by simpa [bnd, G.ret, rd, opt, eS, item, seqI, seqL, ixOf, cmpop, biop, bInt, bLen, bList, bAbs, binop, big, asg, asgs, fits, line, wEq_str, wEq_int, wEq_bl, bIsi, isTy] using par_iff.mpr (g.par p hp)⟩
          obtain ⟨p, hp, rfl⟩ := List.mem_map.mp hx
          simpa [bnd, G.ret, rd, opt, eS, item, seqI, seqL, ixOf, cmpop, biop, bInt, bLen, bList, bAbs, binop, big, asg, asgs, fits, line, wEq_str, wEq_int, wEq_bl, bIsi, isTy] using (g.nm p hp).2
      · generalize (R.map rw2).map (fun r => W.bl (rowB r 2 2 && nmB (it0 r))) = b1 at c1 a1
        generalize R.map (fun p => W.bl (rowB p.2 0 4 && parB (R.map (·.1)) p.1 p.2)) = b2 at c4 a3
        generalize (R.map (·.1)).map (fun x => W.bl (decide (x ∈ told))) = b3 at c3 a2
        generalize R.all (fun p => rowB p.2 0 4 && parB (R.map (·.1)) p.1 p.2) = q3 at a3
        generalize (R.map (·.1)).any (fun x => decide (x ∈ told)) = q2 at a2
        generalize decide (R.map (·.1)).Nodup = q1 at u1
        generalize sw (R.map (·.1)) = nn at c2 c3 c4 u1
        generalize R.map rw2 = rr at *
        cases q1 <;> cases q2 <;> simp [bnd, G.ret, rd, opt, eS, item, seqI, seqL, ixOf, cmpop, biop, bInt, bLen, bList, bAbs, binop, big, asg, asgs, fits, line, wEq_str, wEq_int, wEq_bl, bIsi, isTy, b_fits_classes, hg4, h0, c1, a1, -biop, c2, u1, c3, a2, c4, a3]
    · have hf : rows.all (fun r => rowB r 2 2 && nmB (it0 r)) = false := by simpa [bnd, G.ret, rd, opt, eS, item, seqI, seqL, ixOf, cmpop, biop, bInt, bLen, bList, bAbs, binop, big, asg, asgs, fits, line, wEq_str, wEq_int, wEq_bl, bIsi, isTy] using hall
      rw [hf] at a1
      refine ⟨false, ⟨fun h => (by cases h), ?_⟩, ?_⟩
      · rintro ⟨rows', R, e, g⟩
        cases e
        exfalso
        apply hall
        rw [List.all_eq_true, g.eq]
        intro r hr
        obtain ⟨p, hp, rfl⟩ := List.mem_map.mp hr
        have := (g.nm p hp).1
        simp only [rw2, rowB, it0, nmB, this]
        rfl
      · generalize rows.map (fun r => W.bl (rowB r 2 2 && nmB (it0 r))) = b1 at c1 a1
        simp [bnd, G.ret, rd, opt, eS, item, seqI, seqL, ixOf, cmpop, biop, bInt, bLen, bList, bAbs, binop, big, asg, asgs, fits, line, wEq_str, wEq_int, wEq_bl, bIsi, isTy, b_fits_classes, hg4, h0, c1, a1, -biop]
  · have hf : rowB v 0 20 = false := by simpa [bnd, G.ret, rd, opt, eS, item, seqI, seqL, ixOf, cmpop, biop, bInt, bLen, bList, bAbs, binop, big, asg, asgs, fits, line, wEq_str, wEq_int, wEq_bl, bIsi, isTy] using hr
    rw [hf] at h0
    refine ⟨false, ⟨fun h => (by cases h), ?_⟩, ?_⟩
    · rintro ⟨rows', R, rfl, g⟩
      exfalso
      apply hr
      have := g.len
      have h2 : (rows'.length : Int) ≤ 20 := by omega
      simp [bnd, G.ret, rd, opt, eS, item, seqI, seqL, ixOf, cmpop, biop, bInt, bLen, bList, bAbs, binop, big, asg, asgs, fits, line, wEq_str, wEq_int, wEq_bl, bIsi, isTy, rowB, h2]
    · simp [bnd, G.ret, rd, opt, eS, item, seqI, seqL, ixOf, cmpop, biop, bInt, bLen, bList, bAbs, binop, big, asg, asgs, fits, line, wEq_str, wEq_int, wEq_bl, bIsi, isTy, b_fits_classes, hg4, h0]
end K18

set_option Elab.async false
set_option linter.all false
set_option autoImplicit false
set_option maxRecDepth 100000
set_option maxHeartbeats 4000000
namespace K18
open G Pr
theorem ne_lst {l : List W} {s : G.ST} : cmpop .ne (.lst l) (.lst []) s = some (!l.isEmpty) := by
  cases l <;> simp [bnd, G.ret, rd, opt, eS, item, seqI, seqL, ixOf, cmpop, biop, bInt, bLen, bList, bAbs, binop, big, asg, asgs, fits, line, wEq_str, wEq_int, wEq_bl, bIsi, isTy, wEq, deref, eqOk, eqOks, weq, weqs]
def pr2 (p : W × W) : W := .tup [p.1, p.2]
theorem pr2_inj : ∀ a b : W × W, pr2 a = pr2 b → a = b := fun ⟨a, p⟩ ⟨b, q⟩ h => by
  simp only [pr2, W.tup.injEq, List.cons.injEq, and_true] at h
  obtain ⟨rfl, rfl⟩ := h
  rfl
theorem pairs_of : ∀ {rows : List W}, (∀ r ∈ rows, rowB r 2 2 = true) → ∃ P : List (W × W), rows = P.map pr2
  | [], _ => ⟨[], rfl⟩
  | r :: rows, h => by
    obtain ⟨P, e⟩ := pairs_of (rows := rows) fun q hq => h q (List.mem_cons_of_mem r hq)
    have h1 := h r List.mem_cons_self
    cases r <;> try (cases h1; done)
    rename_i xs
    simp only [rowB, Bool.and_eq_true, decide_eq_true_eq] at h1
    match xs, h1 with
    | [], h1 => simp [bnd, G.ret, rd, opt, eS, item, seqI, seqL, ixOf, cmpop, biop, bInt, bLen, bList, bAbs, binop, big, asg, asgs, fits, line, wEq_str, wEq_int, wEq_bl, bIsi, isTy] at h1
    | [a], h1 => simp [bnd, G.ret, rd, opt, eS, item, seqI, seqL, ixOf, cmpop, biop, bInt, bLen, bList, bAbs, binop, big, asg, asgs, fits, line, wEq_str, wEq_int, wEq_bl, bIsi, isTy] at h1
    | a :: b :: c :: t, h1 => simp only [List.length_cons] at h1; omega
    | [a, b], _ => exact ⟨(a, b) :: P, by rw [e]; rfl⟩
/-- what the second test of a row is -/
def okB (p : W × W) : Bool := (nmB p.1 && !toldB p.1) && rowB p.2 0 4
theorem names_of : ∀ {P : List (W × W)}, (∀ p ∈ P, okB p = true) → ∃ R : List (Nam × W), P.map pr2 = R.map rw2 ∧ ∀ p ∈ R, nb p.1 = true ∧ p.1 ∉ told ∧ rowB p.2 0 4 = true
  | [], _ => ⟨[], rfl, by simp [bnd, G.ret, rd, opt, eS, item, seqI, seqL, ixOf, cmpop, biop, bInt, bLen, bList, bAbs, binop, big, asg, asgs, fits, line, wEq_str, wEq_int, wEq_bl, bIsi, isTy]⟩
  | (a, b) :: P, h => by
    obtain ⟨R, e, hR⟩ := names_of (P := P) fun q hq => h q (List.mem_cons_of_mem _ hq)
    have h1 := h (a, b) List.mem_cons_self
    simp only [okB, Bool.and_eq_true, Bool.not_eq_true'] at h1
    obtain ⟨⟨h1, h2⟩, h3⟩ := h1
    cases a with
    | str y =>
      refine ⟨(y, b) :: R, by rw [List.map_cons, List.map_cons, e]; rfl, fun p hp => ?_⟩
      rcases List.mem_cons.mp hp with rfl | hp
      · exact ⟨h1, by simpa [bnd, G.ret, rd, opt, eS, item, seqI, seqL, ixOf, cmpop, biop, bInt, bLen, bList, bAbs, binop, big, asg, asgs, fits, line, wEq_str, wEq_int, wEq_bl, bIsi, isTy, toldB] using h2, h3⟩
      · exact hR p hp
    | _ => cases h1
theorem filt_nil {α : Type} {l : List α} {q : α → Bool} {g : α → W} : ((l.filter fun c => !q c).map g).isEmpty = l.all q := by
  induction l with
  | nil => rfl
  | cons a l ih =>
    rw [List.filter_cons, List.all_cons]
    cases h : q a with
    | true => simpa [bnd, G.ret, rd, opt, eS, item, seqI, seqL, ixOf, cmpop, biop, bInt, bLen, bList, bAbs, binop, big, asg, asgs, fits, line, wEq_str, wEq_int, wEq_bl, bIsi, isTy] using ih
    | false => simp [bnd, G.ret, rd, opt, eS, item, seqI, seqL, ixOf, cmpop, biop, bInt, bLen, bList, bAbs, binop, big, asg, asgs, fits, line, wEq_str, wEq_int, wEq_bl, bIsi, isTy]
theorem test_one {call : Nat → List W → M W} {names : List Nam} {x : Nam} {e0 e3 e4 : Option W} {o : W} (h : Dat o) (s : G.ST) :
    evB pk.pg call (.cons (.or (.not (.bi .isi (.cons (.var 5) (.cons (.k (.ty "str")) .nil)))) (.or (.cmp .notin (.var 5) (.var 1)) (.cmp .eq (.var 5) (.var 2)))) .nil) [e0, some (.lst (sw names)), some (.str x), e3, e4, some o] s = .ok (!oneB names x o) s := by
  cases h with
  | str y =>
    have hm : cmpop .notin (.str y) (.lst (sw names)) s = some (!decide (y ∈ names)) := notin_lst
    have hcm := cmpop.eq_1 (.str y) (.str x) s
    generalize sw names = nn at hm
    by_cases h1 : y ∈ names
    · by_cases h2 : (y == x) = true
      · simp [bnd, G.ret, rd, opt, eS, item, seqI, seqL, ixOf, cmpop, biop, bInt, bLen, bList, bAbs, binop, big, asg, asgs, fits, line, wEq_str, wEq_int, wEq_bl, bIsi, isTy, hm, -cmpop, hcm, oneB, h1, h2]
      · have h2 : (y == x) = false := by simpa [bnd, G.ret, rd, opt, eS, item, seqI, seqL, ixOf, cmpop, biop, bInt, bLen, bList, bAbs, binop, big, asg, asgs, fits, line, wEq_str, wEq_int, wEq_bl, bIsi, isTy] using h2
        simp [bnd, G.ret, rd, opt, eS, item, seqI, seqL, ixOf, cmpop, biop, bInt, bLen, bList, bAbs, binop, big, asg, asgs, fits, line, wEq_str, wEq_int, wEq_bl, bIsi, isTy, hm, -cmpop, hcm, oneB, h1, h2]
    · simp [bnd, G.ret, rd, opt, eS, item, seqI, seqL, ixOf, cmpop, biop, bInt, bLen, bList, bAbs, binop, big, asg, asgs, fits, line, wEq_str, wEq_int, wEq_bl, bIsi, isTy, hm, -cmpop, hcm, oneB, h1]
  | _ => simp [bnd, G.ret, rd, opt, eS, item, seqI, seqL, ixOf, cmpop, biop, bInt, bLen, bList, bAbs, binop, big, asg, asgs, fits, line, wEq_str, wEq_int, wEq_bl, bIsi, isTy, oneB]
/-- a turn of the law's loop -/
theorem judge_turn {d : Nat} {names : List Nam} {x : Nam} {ps : List W} (hd : ∀ q ∈ ps, Dat q) (hl : ps.length ≤ 4) {v : W} (s : G.ST) :
    (parB names x (.tup ps) = true ∧ evS pk.pg (callD pk.pg d) (.seq (.ife (.cmp .ne (.lc (.v 5) (.itr (.var 3)) (.cons (.or (.not (.bi .isi (.cons (.var 5) (.cons (.k (.ty "str")) .nil)))) (.or (.cmp .notin (.var 5) (.var 1)) (.cmp .eq (.var 5) (.var 2)))) .nil) (.k (.int 1)) [5]) (.lst .nil)) (.seq (.rt (.k (.bl false))) .nil) .nil) (.seq (.ife (.cmp .ne (.lens (.var 3)) (.bi .len (.cons (.var 3) .nil))) (.seq (.rt (.k (.bl false))) .nil) .nil) .nil)) [some v, some (.lst (sw names)), some (.str x), some (.tup ps), none, none] s = .ok .nx [some v, some (.lst (sw names)), some (.str x), some (.tup ps), none, none] s) ∨
    (parB names x (.tup ps) = false ∧ evS pk.pg (callD pk.pg d) (.seq (.ife (.cmp .ne (.lc (.v 5) (.itr (.var 3)) (.cons (.or (.not (.bi .isi (.cons (.var 5) (.cons (.k (.ty "str")) .nil)))) (.or (.cmp .notin (.var 5) (.var 1)) (.cmp .eq (.var 5) (.var 2)))) .nil) (.k (.int 1)) [5]) (.lst .nil)) (.seq (.rt (.k (.bl false))) .nil) .nil) (.seq (.ife (.cmp .ne (.lens (.var 3)) (.bi .len (.cons (.var 3) .nil))) (.seq (.rt (.k (.bl false))) .nil) .nil) .nil)) [some v, some (.lst (sw names)), some (.str x), some (.tup ps), none, none] s = .ok (.rt (.bl false)) [some v, some (.lst (sw names)), some (.str x), some (.tup ps), none, none] s) := by
  have hc : evE pk.pg (callD pk.pg d) (.lc (.v 5) (.itr (.var 3)) (.cons (.or (.not (.bi .isi (.cons (.var 5) (.cons (.k (.ty "str")) .nil)))) (.or (.cmp .notin (.var 5) (.var 1)) (.cmp .eq (.var 5) (.var 2)))) .nil) (.k (.int 1)) [5]) [some v, some (.lst (sw names)), some (.str x), some (.tup ps), none, none] s = .ok (.lst ((ps.filter fun o => !oneB names x o).map fun _ => .int 1)) s := by
    have key : ∀ o ∈ ps, ∃ env', asg (.v 5) o (wipes [some v, some (.lst (sw names)), some (.str x), some (.tup ps), none, none] [5]) = some env' ∧ evB pk.pg (callD pk.pg d) (.cons (.or (.not (.bi .isi (.cons (.var 5) (.cons (.k (.ty "str")) .nil)))) (.or (.cmp .notin (.var 5) (.var 1)) (.cmp .eq (.var 5) (.var 2)))) .nil) env' s = .ok (!oneB names x o) s ∧ ((!oneB names x o) = true → evE pk.pg (callD pk.pg d) (.k (.int 1)) env' s = .ok (.int 1) s) := fun o ho =>
      ⟨[some v, some (.lst (sw names)), some (.str x), some (.tup ps), none, some o], rfl, test_one (hd o ho) s, fun _ => by simp [bnd, G.ret, rd, opt, eS, item, seqI, seqL, ixOf, cmpop, biop, bInt, bLen, bList, bAbs, binop, big, asg, asgs, fits, line, wEq_str, wEq_int, wEq_bl, bIsi, isTy]⟩
    exact lc_filtL (l := ps) (f := fun w => w) (h := fun _ => .int 1) (p := fun o => !oneB names x o) (by rw [List.map_id']; simp [bnd, G.ret, rd, opt, eS, item, seqI, seqL, ixOf, cmpop, biop, bInt, bLen, bList, bAbs, binop, big, asg, asgs, fits, line, wEq_str, wEq_int, wEq_bl, bIsi, isTy, srcOf]) (fun a b h => h) key (by show _ ≤ 16777216; omega)
  have hn := ne_lst (l := (ps.filter fun o => !oneB names x o).map fun _ => W.int 1) (s := s)
  rw [filt_nil] at hn
  generalize ((ps.filter fun o => !oneB names x o).map fun _ => W.int 1) = bs at hc hn
  by_cases hall : ps.all (oneB names x) = true
  · obtain ⟨qs, hq, _⟩ := all_strs hall
    have hql : qs.length = ps.length := by rw [hq, sw_len]
    have hB : parB names x (.tup ps) = decide qs.Nodup := by
      simp only [parB, hall, Bool.true_and]
      rw [hq, strsW_map]
    rw [hall] at hn
    have h1 := lensT (l := qs) (by omega) (s := s)
    rw [← hq] at h1
    have h2 : biop .len [.tup ps] s = some (.int qs.length) := by simp [bnd, G.ret, rd, opt, eS, item, seqI, seqL, ixOf, cmpop, biop, bInt, bLen, bList, bAbs, binop, big, asg, asgs, fits, line, wEq_str, wEq_int, wEq_bl, bIsi, isTy, hql]
    have h3 : cmpop .ne (.int (unl [] qs)) (.int qs.length) s = some (!decide qs.Nodup) := by
      rw [← unl_dec]
      simp [bnd, G.ret, rd, opt, eS, item, seqI, seqL, ixOf, cmpop, biop, bInt, bLen, bList, bAbs, binop, big, asg, asgs, fits, line, wEq_str, wEq_int, wEq_bl, bIsi, isTy]
    rw [hB]
    generalize sw names = nn at *
    by_cases hnd : qs.Nodup
    · rw [decide_eq_true hnd] at h3 ⊢
      refine .inl ⟨rfl, ?_⟩
      simp [bnd, G.ret, rd, opt, eS, item, seqI, seqL, ixOf, cmpop, biop, bInt, bLen, bList, bAbs, binop, big, asg, asgs, fits, line, wEq_str, wEq_int, wEq_bl, bIsi, isTy, hc, hn, -cmpop, -biop, h1, h2, h3]
    · rw [decide_eq_false hnd] at h3 ⊢
      refine .inr ⟨rfl, ?_⟩
      simp [bnd, G.ret, rd, opt, eS, item, seqI, seqL, ixOf, cmpop, biop, bInt, bLen, bList, bAbs, binop, big, asg, asgs, fits, line, wEq_str, wEq_int, wEq_bl, bIsi, isTy, hc, hn, -cmpop, -biop, h1, h2, h3]
  · have hf : ps.all (oneB names x) = false := by simpa [bnd, G.ret, rd, opt, eS, item, seqI, seqL, ixOf, cmpop, biop, bInt, bLen, bList, bAbs, binop, big, asg, asgs, fits, line, wEq_str, wEq_int, wEq_bl, bIsi, isTy] using hall
    rw [hf] at hn
    refine .inr ⟨by simp only [parB, hf, Bool.false_and], ?_⟩
    generalize sw names = nn at *
    simp [bnd, G.ret, rd, opt, eS, item, seqI, seqL, ixOf, cmpop, biop, bInt, bLen, bList, bAbs, binop, big, asg, asgs, fits, line, wEq_str, wEq_int, wEq_bl, bIsi, isTy, hc, hn, -cmpop]
end K18

set_option Elab.async false
set_option linter.all false
set_option autoImplicit false
set_option maxRecDepth 100000
set_option maxHeartbeats 4000000
namespace K18
open G Pr
theorem row_tup {w : W} (hb : rowB w 0 4 = true) : ∃ ps, w = .tup ps ∧ ps.length ≤ 4 := by
  cases w <;> try (cases hb; done)
  rename_i ps
  simp only [rowB, Bool.and_eq_true, decide_eq_true_eq] at hb
  exact ⟨ps, rfl, by omega⟩
theorem judge_loop {d : Nat} {R : List (Nam × W)} {names : List Nam} {v : W} (hv : v = .tup (R.map rw2)) (hd : ∀ p ∈ R, ∃ ps, p.2 = .tup ps ∧ ps.length ≤ 4 ∧ ∀ q ∈ ps, Dat q) (s : G.ST) :
    (∃ o2 o3, (∀ p ∈ R, parB names p.1 p.2 = true) ∧ evS pk.pg (callD pk.pg d) (.forr (.cons (.v 2) (.cons (.v 3) .nil)) (.itr (.var 0)) (.seq (.ife (.cmp .ne (.lc (.v 5) (.itr (.var 3)) (.cons (.or (.not (.bi .isi (.cons (.var 5) (.cons (.k (.ty "str")) .nil)))) (.or (.cmp .notin (.var 5) (.var 1)) (.cmp .eq (.var 5) (.var 2)))) .nil) (.k (.int 1)) [5]) (.lst .nil)) (.seq (.rt (.k (.bl false))) .nil) .nil) (.seq (.ife (.cmp .ne (.lens (.var 3)) (.bi .len (.cons (.var 3) .nil))) (.seq (.rt (.k (.bl false))) .nil) .nil) .nil))) [some v, some (.lst (sw names)), none, none, none, none] s = .ok .nx [some v, some (.lst (sw names)), o2, o3, none, none] s) ∨
    (∃ env', (∃ p ∈ R, parB names p.1 p.2 = false) ∧ evS pk.pg (callD pk.pg d) (.forr (.cons (.v 2) (.cons (.v 3) .nil)) (.itr (.var 0)) (.seq (.ife (.cmp .ne (.lc (.v 5) (.itr (.var 3)) (.cons (.or (.not (.bi .isi (.cons (.var 5) (.cons (.k (.ty "str")) .nil)))) (.or (.cmp .notin (.var 5) (.var 1)) (.cmp .eq (.var 5) (.var 2)))) .nil) (.k (.int 1)) [5]) (.lst .nil)) (.seq (.rt (.k (.bl false))) .nil) .nil) (.seq (.ife (.cmp .ne (.lens (.var 3)) (.bi .len (.cons (.var 3) .nil))) (.seq (.rt (.k (.bl false))) .nil) .nil) .nil))) [some v, some (.lst (sw names)), none, none, none, none] s = .ok (.rt (.bl false)) env' s) := by
  refine for_rule (P := pk.pg) (call := callD pk.pg d) (t := (.cons (.v 2) (.cons (.v 3) .nil))) (it := (.itr (.var 0))) (b := (.seq (.ife (.cmp .ne (.lc (.v 5) (.itr (.var 3)) (.cons (.or (.not (.bi .isi (.cons (.var 5) (.cons (.k (.ty "str")) .nil)))) (.or (.cmp .notin (.var 5) (.var 1)) (.cmp .eq (.var 5) (.var 2)))) .nil) (.k (.int 1)) [5]) (.lst .nil)) (.seq (.rt (.k (.bl false))) .nil) .nil) (.seq (.ife (.cmp .ne (.lens (.var 3)) (.bi .len (.cons (.var 3) .nil))) (.seq (.rt (.k (.bl false))) .nil) .nil) .nil))) (env := [some v, some (.lst (sw names)), none, none, none, none]) (s := s)
    (Q := fun RS => (∃ o2 o3, (∀ p ∈ R, parB names p.1 p.2 = true) ∧ RS = .ok .nx [some v, some (.lst (sw names)), o2, o3, none, none] s) ∨ (∃ env', (∃ p ∈ R, parB names p.1 p.2 = false) ∧ RS = .ok (.rt (.bl false)) env' s))
    (xs := R.map rw2) (s' := s) (by subst hv; simp [bnd, G.ret, rd, opt, eS, item, seqI, seqL, ixOf, cmpop, biop, bInt, bLen, bList, bAbs, binop, big, asg, asgs, fits, line, wEq_str, wEq_int, wEq_bl, bIsi, isTy, srcOf])
    (fun xs env s' => s' = s ∧ ∃ (T : List (Nam × W)) (o2 o3 : Option W), xs = T.map rw2 ∧ (∀ p ∈ T, p ∈ R) ∧ (∀ p ∈ R, p ∈ T ∨ parB names p.1 p.2 = true) ∧ env = [some v, some (.lst (sw names)), o2, o3, none, none])
    (fun env s' ⟨hs, T, o2, o3, hx, h1, h2, he⟩ => ?_) (fun x xs env s' ⟨hs, T, o2, o3, hx, h1, h2, he⟩ => ?_) ⟨rfl, R, none, none, rfl, fun _ h => h, fun _ h => .inl h, rfl⟩
  · subst hs
    subst he
    have hT : T = [] := by cases T with
      | nil => rfl
      | cons a T => cases hx
    subst hT
    exact .inl ⟨o2, o3, fun p hp => (h2 p hp).resolve_left (by simp [bnd, G.ret, rd, opt, eS, item, seqI, seqL, ixOf, cmpop, biop, bInt, bLen, bList, bAbs, binop, big, asg, asgs, fits, line, wEq_str, wEq_int, wEq_bl, bIsi, isTy]), rfl⟩
  · subst hs
    subst he
    cases T with
    | nil => cases hx
    | cons p T =>
      simp only [List.map_cons, List.cons.injEq] at hx
      obtain ⟨rfl, rfl⟩ := hx
      obtain ⟨ps, hps, hpl, hpd⟩ := hd p (h1 p List.mem_cons_self)
      refine ⟨[some v, some (.lst (sw names)), some (.str p.1), some p.2, none, none], by simp [bnd, G.ret, rd, opt, eS, item, seqI, seqL, ixOf, cmpop, biop, bInt, bLen, bList, bAbs, binop, big, asg, asgs, fits, line, wEq_str, wEq_int, wEq_bl, bIsi, isTy, rw2], ?_⟩
      have ht := judge_turn (d := d) (names := names) (x := p.1) hpd hpl (v := v) s'
      rw [← hps] at ht
      rcases ht with ⟨hb, e⟩ | ⟨hb, e⟩
      · refine .inl ⟨_, _, e, rfl, T, some (.str p.1), some p.2, rfl, fun q hq => h1 q (List.mem_cons_of_mem p hq), fun q hq => ?_, rfl⟩
        rcases h2 q hq with h | h
        · rcases List.mem_cons.mp h with rfl | h
          · exact .inr hb
          · exact .inl h
        · exact .inr h
      · exact .inr ⟨_, _, _, e, .inr ⟨_, ⟨p, h1 p List.mem_cons_self, hb⟩, rfl⟩⟩
/-- _law_judged of any plain value -/
theorem judged_gen {v : W} (hv : InV v) (d : Nat) (s : G.ST) : ∃ b : Bool, (b = true ↔ GoodV v) ∧ callD pk.pg (d + 2) 32 [v] s = .ok (.bl b) s := by
  have h0 : callD pk.pg (d + 1) 30 [v, .int 0, .int 20] s = .ok (.bl (rowB v 0 20)) s := row_law hv.1 d 0 20 s
  rw [call_eq (df := ⟨1, 6, b__law_judged⟩) rfl rfl]
  by_cases hr : rowB v 0 20 = true
  · obtain ⟨rows, hvr, hl⟩ : ∃ rows, v = .tup rows ∧ rows.length ≤ 20 := by
      cases v <;> try (cases hr; done)
      rename_i rows
      simp only [rowB, Bool.and_eq_true, decide_eq_true_eq] at hr
      exact ⟨rows, rfl, by omega⟩
    rw [hr] at h0
    have hin := hv.2 rows hvr
    have c1 : evE pk.pg (callD pk.pg (d + 1)) (.lc (.v 4) (.itr (.var 0)) (.cons (.not (.call 30 (.cons (.var 4) (.cons (.k (.int 2)) (.cons (.k (.int 2)) .nil))))) .nil) (.k (.int 1)) [4]) [some v, none, none, none, none, none] s = .ok (.lst ((rows.filter fun r => !rowB r 2 2).map fun _ => .int 1)) s := by
      have key : ∀ r ∈ rows, ∃ env', asg (.v 4) r (wipes [some v, none, none, none, none, none] [4]) = some env' ∧ evB pk.pg (callD pk.pg (d + 1)) (.cons (.not (.call 30 (.cons (.var 4) (.cons (.k (.int 2)) (.cons (.k (.int 2)) .nil))))) .nil) env' s = .ok (!rowB r 2 2) s ∧ ((!rowB r 2 2) = true → evE pk.pg (callD pk.pg (d + 1)) (.k (.int 1)) env' s = .ok (.int 1) s) := fun r hr => by
        have h1 := row_law (hin r hr).1 d 2 2 s
        refine ⟨[some v, none, none, none, some r, none], rfl, ?_, fun _ => by simp [bnd, G.ret, rd, opt, eS, item, seqI, seqL, ixOf, cmpop, biop, bInt, bLen, bList, bAbs, binop, big, asg, asgs, fits, line, wEq_str, wEq_int, wEq_bl, bIsi, isTy]⟩
        generalize rowB r 2 2 = q at h1
        cases q <;> simp [bnd, G.ret, rd, opt, eS, item, seqI, seqL, ixOf, cmpop, biop, bInt, bLen, bList, bAbs, binop, big, asg, asgs, fits, line, wEq_str, wEq_int, wEq_bl, bIsi, isTy, h1]
      exact lc_filtL (l := rows) (f := fun w => w) (h := fun _ => .int 1) (p := fun r => !rowB r 2 2) (by rw [List.map_id']; simp [bnd, G.ret, rd, opt, eS, item, seqI, seqL, ixOf, cmpop, biop, bInt, bLen, bList, bAbs, binop, big, asg, asgs, fits, line, wEq_str, wEq_int, wEq_bl, bIsi, isTy, srcOf, hvr]) (fun a b h => h) key (by show _ ≤ 16777216; omega)
    have n1 := ne_lst (l := (rows.filter fun r => !rowB r 2 2).map fun _ => W.int 1) (s := s)
    rw [filt_nil] at n1
    generalize ((rows.filter fun r => !rowB r 2 2).map fun _ => W.int 1) = bs1 at c1 n1
    by_cases hall : rows.all (fun r => rowB r 2 2) = true
    · rw [hall] at n1
      obtain ⟨P, rfl⟩ := pairs_of (rows := rows) (fun r hr => List.all_eq_true.mp hall r hr)
      have hPl : P.length ≤ 20 := by rw [List.length_map] at hl; exact hl
      have c2 : evE pk.pg (callD pk.pg (d + 1)) (.lc (.cons (.v 2) (.cons (.v 3) .nil)) (.itr (.var 0)) (.cons (.or (.not (.call 31 (.cons (.var 2) .nil))) (.not (.call 30 (.cons (.var 3) (.cons (.k (.int 0)) (.cons (.k (.int 4)) .nil)))))) .nil) (.k (.int 1)) [2, 3]) [some v, none, none, none, none, none] s = .ok (.lst ((P.filter fun p => !okB p).map fun _ => .int 1)) s := by
        have key : ∀ p ∈ P, ∃ env', asg (.cons (.v 2) (.cons (.v 3) .nil)) (pr2 p) (wipes [some v, none, none, none, none, none] [2, 3]) = some env' ∧ evB pk.pg (callD pk.pg (d + 1)) (.cons (.or (.not (.call 31 (.cons (.var 2) .nil))) (.not (.call 30 (.cons (.var 3) (.cons (.k (.int 0)) (.cons (.k (.int 4)) .nil)))))) .nil) env' s = .ok (!okB p) s ∧ ((!okB p) = true → evE pk.pg (callD pk.pg (d + 1)) (.k (.int 1)) env' s = .ok (.int 1) s) := fun p hp => by
          have hi := (hin (pr2 p) (List.mem_map_of_mem (f := pr2) hp)).2 _ rfl
          have h1 := name2 (hi.1 p.1 (by simp [bnd, G.ret, rd, opt, eS, item, seqI, seqL, ixOf, cmpop, biop, bInt, bLen, bList, bAbs, binop, big, asg, asgs, fits, line, wEq_str, wEq_int, wEq_bl, bIsi, isTy])) (hi.2 _ _ rfl).1 d s
          have h2 := row_law (hi.1 p.2 (by simp [bnd, G.ret, rd, opt, eS, item, seqI, seqL, ixOf, cmpop, biop, bInt, bLen, bList, bAbs, binop, big, asg, asgs, fits, line, wEq_str, wEq_int, wEq_bl, bIsi, isTy])) d 0 4 s
          refine ⟨[some v, none, some p.1, some p.2, none, none], by simp [bnd, G.ret, rd, opt, eS, item, seqI, seqL, ixOf, cmpop, biop, bInt, bLen, bList, bAbs, binop, big, asg, asgs, fits, line, wEq_str, wEq_int, wEq_bl, bIsi, isTy, pr2, wipes], ?_, fun _ => by simp [bnd, G.ret, rd, opt, eS, item, seqI, seqL, ixOf, cmpop, biop, bInt, bLen, bList, bAbs, binop, big, asg, asgs, fits, line, wEq_str, wEq_int, wEq_bl, bIsi, isTy]⟩
          unfold okB
          generalize (nmB p.1 && !toldB p.1) = q1 at h1
          generalize rowB p.2 0 4 = q2 at h2
          cases q1
          · simp [bnd, G.ret, rd, opt, eS, item, seqI, seqL, ixOf, cmpop, biop, bInt, bLen, bList, bAbs, binop, big, asg, asgs, fits, line, wEq_str, wEq_int, wEq_bl, bIsi, isTy, h1]
          · cases q2 <;> simp [bnd, G.ret, rd, opt, eS, item, seqI, seqL, ixOf, cmpop, biop, bInt, bLen, bList, bAbs, binop, big, asg, asgs, fits, line, wEq_str, wEq_int, wEq_bl, bIsi, isTy, h1, h2]
        exact lc_filtL (l := P) (f := pr2) (h := fun _ => .int 1) (p := fun p => !okB p) (by simp [bnd, G.ret, rd, opt, eS, item, seqI, seqL, ixOf, cmpop, biop, bInt, bLen, bList, bAbs, binop, big, asg, asgs, fits, line, wEq_str, wEq_int, wEq_bl, bIsi, isTy, srcOf, hvr]) pr2_inj key (by show _ ≤ 16777216; omega)
      have n2 := ne_lst (l := (P.filter fun p => !okB p).map fun _ => W.int 1) (s := s)
      rw [filt_nil] at n2
      generalize ((P.filter fun p => !okB p).map fun _ => W.int 1) = bs2 at c2 n2
      by_cases hall2 : P.all okB = true
      · rw [hall2] at n2
        obtain ⟨R, hPR, hR⟩ := names_of (P := P) (fun p hp => List.all_eq_true.mp hall2 p hp)
        rw [hPR] at hvr hin
        have hRl : R.length ≤ 20 := by
          have := congrArg List.length hPR
          rw [List.length_map, List.length_map] at this
          omega
        have hnl : (R.map (·.1)).length = R.length := List.length_map _
        have c3 : evE pk.pg (callD pk.pg (d + 1)) (.lc (.cons (.v 2) (.cons (.v 3) .nil)) (.itr (.var 0)) .nil (.var 2) [2, 3]) [some v, none, none, none, none, none] s = .ok (.lst (sw (R.map (·.1)))) s := by
          unfold sw
          rw [List.map_map]
          have key : ∀ p ∈ R, ∃ env', asg (.cons (.v 2) (.cons (.v 3) .nil)) (rw2 p) (wipes [some v, none, none, none, none, none] [2, 3]) = some env' ∧ evE pk.pg (callD pk.pg (d + 1)) (.var 2) env' s = .ok (.str p.1) s := fun p hp =>
            ⟨[some v, none, some (.str p.1), some p.2, none, none], by simp [bnd, G.ret, rd, opt, eS, item, seqI, seqL, ixOf, cmpop, biop, bInt, bLen, bList, bAbs, binop, big, asg, asgs, fits, line, wEq_str, wEq_int, wEq_bl, bIsi, isTy, rw2, wipes], by simp [bnd, G.ret, rd, opt, eS, item, seqI, seqL, ixOf, cmpop, biop, bInt, bLen, bList, bAbs, binop, big, asg, asgs, fits, line, wEq_str, wEq_int, wEq_bl, bIsi, isTy]⟩
          exact lc_mapL (l := R) (f := rw2) (h := fun p => .str p.1) (by simp [bnd, G.ret, rd, opt, eS, item, seqI, seqL, ixOf, cmpop, biop, bInt, bLen, bList, bAbs, binop, big, asg, asgs, fits, line, wEq_str, wEq_int, wEq_bl, bIsi, isTy, srcOf, hvr]) rw2_inj key (by show _ ≤ 16777216; omega)
        have hloop := judge_loop (d := d + 1) (R := R) (names := R.map (·.1)) hvr (fun p hp => by
          obtain ⟨ps, hps, hpl⟩ := row_tup (hR p hp).2.2
          have hi := (hin (rw2 p) (List.mem_map_of_mem (f := rw2) hp)).2 _ rfl
          exact ⟨ps, hps, hpl, (hi.2 _ _ rfl).2 ps hps⟩) s
        have l1 := lensL (l := R.map (·.1)) (by omega) (s := s)
        have l2 : biop .len [.lst (sw (R.map (·.1)))] s = some (.int (R.map (·.1)).length) := by simp [bnd, G.ret, rd, opt, eS, item, seqI, seqL, ixOf, cmpop, biop, bInt, bLen, bList, bAbs, binop, big, asg, asgs, fits, line, wEq_str, wEq_int, wEq_bl, bIsi, isTy, sw_len]
        have l3 : cmpop .eq (.int (unl [] (R.map (·.1)))) (.int (R.map (·.1)).length) s = some (decide (R.map (·.1)).Nodup) := by
          rw [← unl_dec]
          simp [bnd, G.ret, rd, opt, eS, item, seqI, seqL, ixOf, cmpop, biop, bInt, bLen, bList, bAbs, binop, big, asg, asgs, fits, line, wEq_str, wEq_int, wEq_bl, bIsi, isTy]
        have good : ∀ {rows' R'}, v = .tup rows' → Good rows' R' → R' = R := fun {rows' R'} e g => by
          rw [hvr] at e
          cases e
          exact ((List.map_inj_right rw2_inj).mp g.eq).symm
        rcases hloop with ⟨o2, o3, hp, hloop⟩ | ⟨env', ⟨p, hp, hb⟩, hloop⟩
        · refine ⟨decide (R.map (·.1)).Nodup, ?_, ?_⟩
          · rw [decide_eq_true_eq]
            constructor
            · intro hnd
              exact ⟨_, R, hvr, by rw [List.length_map]; exact hRl, rfl, fun p hp => ⟨(hR p hp).1, (hR p hp).2.1⟩, hnd, fun p hpR => par_iff.mp (by rw [(hR p hpR).2.2, hp p hpR]; rfl)⟩
            · rintro ⟨rows', R', e, g⟩
              rw [← good e g]
              exact g.nd
          · generalize unl [] (R.map (·.1)) = u at l1 l3
            generalize (R.map (·.1)).length = ln at l2 l3
            generalize decide (R.map (·.1)).Nodup = q at l3
            generalize sw (R.map (·.1)) = nn at *
            simp [bnd, G.ret, rd, opt, eS, item, seqI, seqL, ixOf, cmpop, biop, bInt, bLen, bList, bAbs, binop, big, asg, asgs, fits, line, wEq_str, wEq_int, wEq_bl, bIsi, isTy, b__law_judged, h0, c1, n1, -cmpop, c2, n2, c3, hloop, l1, l2, l3, -biop]
        · refine ⟨false, ⟨fun h => (by cases h), ?_⟩, ?_⟩
          · rintro ⟨rows', R', e, g⟩
            have eR := good e g
            subst eR
            have := par_iff.mpr (g.par p hp)
            rw [hb, Bool.and_false] at this
            exact this
          · generalize sw (R.map (·.1)) = nn at *
            simp [bnd, G.ret, rd, opt, eS, item, seqI, seqL, ixOf, cmpop, biop, bInt, bLen, bList, bAbs, binop, big, asg, asgs, fits, line, wEq_str, wEq_int, wEq_bl, bIsi, isTy, b__law_judged, h0, c1, n1, -cmpop, c2, n2, c3, hloop]
      · have hf : P.all okB = false := by simpa [bnd, G.ret, rd, opt, eS, item, seqI, seqL, ixOf, cmpop, biop, bInt, bLen, bList, bAbs, binop, big, asg, asgs, fits, line, wEq_str, wEq_int, wEq_bl, bIsi, isTy] using hall2
        rw [hf] at n2
        refine ⟨false, ⟨fun h => (by cases h), ?_⟩, ?_⟩
        · rintro ⟨rows', R, e, g⟩
          rw [hvr] at e
          cases e
          exfalso
          apply hall2
          rw [List.all_eq_true]
          intro p hp
          have h1 : pr2 p ∈ R.map rw2 := by rw [← g.eq]; exact List.mem_map_of_mem (f := pr2) hp
          obtain ⟨r, hr, e⟩ := List.mem_map.mp h1
          simp only [rw2, pr2, W.tup.injEq, List.cons.injEq, and_true] at e
          obtain ⟨e1, e2⟩ := e
          have h2 := g.nm r hr
          have h3 := par_iff.mpr (g.par r hr)
          simp only [Bool.and_eq_true] at h3
          unfold okB
          rw [← e1, ← e2, h3.1]
          simp [bnd, G.ret, rd, opt, eS, item, seqI, seqL, ixOf, cmpop, biop, bInt, bLen, bList, bAbs, binop, big, asg, asgs, fits, line, wEq_str, wEq_int, wEq_bl, bIsi, isTy, nmB, toldB, h2.1, h2.2]
        · simp [bnd, G.ret, rd, opt, eS, item, seqI, seqL, ixOf, cmpop, biop, bInt, bLen, bList, bAbs, binop, big, asg, asgs, fits, line, wEq_str, wEq_int, wEq_bl, bIsi, isTy, b__law_judged, h0, c1, n1, -cmpop, c2, n2]
    · have hf : rows.all (fun r => rowB r 2 2) = false := by simpa [bnd, G.ret, rd, opt, eS, item, seqI, seqL, ixOf, cmpop, biop, bInt, bLen, bList, bAbs, binop, big, asg, asgs, fits, line, wEq_str, wEq_int, wEq_bl, bIsi, isTy] using hall
      rw [hf] at n1
      refine ⟨false, ⟨fun h => (by cases h), ?_⟩, ?_⟩
      · rintro ⟨rows', R, e, g⟩
        rw [hvr] at e
        cases e
        exfalso
        apply hall
        rw [List.all_eq_true, g.eq]
        intro r hr
        obtain ⟨p, hp, rfl⟩ := List.mem_map.mp hr
        rfl
      · simp [bnd, G.ret, rd, opt, eS, item, seqI, seqL, ixOf, cmpop, biop, bInt, bLen, bList, bAbs, binop, big, asg, asgs, fits, line, wEq_str, wEq_int, wEq_bl, bIsi, isTy, b__law_judged, h0, c1, n1, -cmpop]
  · have hf : rowB v 0 20 = false := by simpa [bnd, G.ret, rd, opt, eS, item, seqI, seqL, ixOf, cmpop, biop, bInt, bLen, bList, bAbs, binop, big, asg, asgs, fits, line, wEq_str, wEq_int, wEq_bl, bIsi, isTy] using hr
    rw [hf] at h0
    refine ⟨false, ⟨fun h => (by cases h), ?_⟩, ?_⟩
    · rintro ⟨rows', R, rfl, g⟩
      exfalso
      apply hr
      have := g.len
      have h2 : (rows'.length : Int) ≤ 20 := by omega
      simp [bnd, G.ret, rd, opt, eS, item, seqI, seqL, ixOf, cmpop, biop, bInt, bLen, bList, bAbs, binop, big, asg, asgs, fits, line, wEq_str, wEq_int, wEq_bl, bIsi, isTy, rowB, h2]
    · simp [bnd, G.ret, rd, opt, eS, item, seqI, seqL, ixOf, cmpop, biop, bInt, bLen, bList, bAbs, binop, big, asg, asgs, fits, line, wEq_str, wEq_int, wEq_bl, bIsi, isTy, b__law_judged, h0]
end K18

set_option Elab.async false
set_option linter.all false
set_option autoImplicit false
set_option maxRecDepth 100000
set_option maxHeartbeats 4000000
namespace K18
open G Pr
theorem rng_many {k : Nat} (h : k ≤ 1000) : rngOf [.int k] = some ((List.range k).map fun i : Nat => W.int i) := by
  have e : rngW 0 k = (List.range k).map fun i : Nat => W.int i := by
    rw [rng_range]
    apply List.map_congr_left
    intro i _
    rw [Int.zero_add]
  have hs : (-small : Int) < (k : Int) ∧ (k : Int) < small := by
    have e : small = 1000000000 := rfl
    rw [e]
    constructor <;> omega
  show (if -small < (k : Int) ∧ (k : Int) < small then some (rngW 0 (k : Int).toNat) else none) = _
  rw [if_pos hs, Int.toNat_natCast, e]
theorem seq_nx {P : Pg} {call : Nat → List W → M W} {a b : G.S} {env env' : Env} {s s' : ST} (h : evS P call a env s = .ok .nx env' s') : evS P call (.seq a b) env s = evS P call b env' s' := by
  rw [evS, h]
theorem seq_rt {P : Pg} {call : Nat → List W → M W} {a b : G.S} {env env' : Env} {s s' : ST} {w : W} (h : evS P call a env s = .ok (.rt w) env' s') : evS P call (.seq a b) env s = .ok (.rt w) env' s' := by
  rw [evS, h]
theorem asg_nx {P : Pg} {call : Nat → List W → M W} {t : T} {e : E} {env env' : Env} {s s' : ST} {w : W} (h : evE P call e env s = .ok w s') (ha : asg t w env = some env') : evS P call (.asg t e) env s = .ok .nx env' s' := by
  rw [evS]
  simp only [eS, h, ha]
theorem rt_rt {P : Pg} {call : Nat → List W → M W} {e : E} {env : Env} {s s' : ST} {w : W} (h : evE P call e env s = .ok w s') : evS P call (.rt e) env s = .ok (.rt w) env s' := by
  rw [evS]
  simp only [eS, h]
theorem add_str {x y : List Nat} {s : G.ST} (h : x.length + y.length ≤ line) : binop .add (.str x) (.str y) s = some (.str (x ++ y)) := if_pos h
theorem one_str {P : Pg} {call : Nat → List W → M W} {env : Env} {s : G.ST} {e : E} {i : W} {z : List Nat} {x : List Nat} (he : evE P call e env s = .ok i s) (hs : biop .str [i] s = some (.str z)) (hb : binop .add (.str x) (.str z) s = some (.str (x ++ z))) : evE P call (.bin .add (.k (.str x)) (.bi .str (.cons e .nil))) env s = .ok (.str (x ++ z)) s := by
  simp [bnd, G.ret, rd, opt, eS, item, seqI, seqL, ixOf, cmpop, biop, bInt, bLen, bList, bAbs, binop, big, asg, asgs, fits, line, wEq_str, wEq_int, wEq_bl, bTuple, he, hs, hb, -biop, -binop]
def odds : List W := [.str [116], .str [110, 105, 108], .str [58, 120], .str [111, 98, 106, 101, 99, 116], .str [99, 111, 110, 115], .str [43, 49], .str [49, 50], .str a21, .str a20, .str [65], .str [], .int 5, .non, .tup [.str [112]], .bl true, .str [42, 112, 42], .str [45], .str [49, 43], .str [112], .str [113]]
theorem odds_ev {call : Nat → List W → M W} {env : Env} (s : G.ST) : evE pk.pg call (.lst (.cons (.k (.str [116])) (.cons (.k (.str [110, 105, 108])) (.cons (.k (.str [58, 120])) (.cons (.k (.str [111, 98, 106, 101, 99, 116])) (.cons (.k (.str [99, 111, 110, 115])) (.cons (.k (.str [43, 49])) (.cons (.k (.str [49, 50])) (.cons (.bin .mul (.k (.str [97])) (.k (.int 21))) (.cons (.bin .mul (.k (.str [97])) (.k (.int 20))) (.cons (.k (.str [65])) (.cons (.k (.str [])) (.cons (.k (.int 5)) (.cons (.k .non) (.cons (.tup (.cons (.k (.str [112])) .nil)) (.cons (.k (.bl true)) (.cons (.k (.str [42, 112, 42])) (.cons (.k (.str [45])) (.cons (.k (.str [49, 43])) (.cons (.k (.str [112])) (.cons (.k (.str [113])) .nil))))))))))))))))))))) env s = .ok (.lst odds) s := by kernel_rfl
/-- n0, n1 .. -/
def moreW (n : Nat) : W := .tup ((ns21.take n).map fun x => .tup [.str x, .tup []])
theorem ns_at : ∀ j, j < 21 → 110 :: intStr (j : Nat) = ns21.getD j [] := by decide +kernel
theorem take_range {α : Type} [Inhabited α] {l : List α} {n : Nat} {d : α} (h : n ≤ l.length) : ((List.range n).map fun i => l.getD i d) = l.take n := by
  apply List.ext_getElem
  · simp [bnd, G.ret, rd, opt, eS, item, seqI, seqL, ixOf, cmpop, biop, bInt, bLen, bList, bAbs, binop, big, asg, asgs, fits, line, wEq_str, wEq_int, wEq_bl, bTuple, h]
  · intro i h1 h2
    have h3 : i < l.length := by
      rw [List.length_take] at h2; omega
    simp [bnd, G.ret, rd, opt, eS, item, seqI, seqL, ixOf, cmpop, biop, bInt, bLen, bList, bAbs, binop, big, asg, asgs, fits, line, wEq_str, wEq_int, wEq_bl, bTuple, h3]
theorem more_ev {call : Nat → List W → M W} {env : Env} {l : E} {n : Nat} {v : Nat} {s s' : G.ST} (ha : evA pk.pg call l env s = .ok [.int n] s') (hn : n ≤ 21) (hv : v < env.length) :
    evE pk.pg call (.bi .tuple (.cons (.lc (.v v) (.rng l) .nil (.tup (.cons (.bin .add (.k (.str [110])) (.bi .str (.cons (.var v) .nil))) (.cons (.tup .nil) .nil))) [v]) .nil)) env s = .ok (moreW n) s' := by
  have hl : evE pk.pg call (.lc (.v v) (.rng l) .nil (.tup (.cons (.bin .add (.k (.str [110])) (.bi .str (.cons (.var v) .nil))) (.cons (.tup .nil) .nil))) [v]) env s = .ok (.lst ((List.range n).map fun i : Nat => W.tup [.str (ns21.getD i []), .tup []])) s' := by
    have key : ∀ k ∈ List.range n, ∃ env', asg (.v v) (W.int (k : Nat)) (wipes env [v]) = some env' ∧ evE pk.pg call (.tup (.cons (.bin .add (.k (.str [110])) (.bi .str (.cons (.var v) .nil))) (.cons (.tup .nil) .nil))) env' s' = .ok (.tup [.str (ns21.getD k []), .tup []]) s' := fun k hk => by
      have hk : k < n := by simpa [bnd, G.ret, rd, opt, eS, item, seqI, seqL, ixOf, cmpop, biop, bInt, bLen, bList, bAbs, binop, big, asg, asgs, fits, line, wEq_str, wEq_int, wEq_bl, bTuple] using hk
      have hk : k < 21 := by omega
      have hb : -big < (k : Int) ∧ (k : Int) < big := by
        have e : big = 18446744073709551616 := rfl
        rw [e]
        constructor <;> omega
      have hs : biop .str [.int k] s' = some (.str (intStr k)) := by
        generalize (k : Int) = z at hb
        simp only [biop, bStr, if_pos hb]
      have hlen : (intStr k).length ≤ 2 := by
        have : ∀ j, j < 21 → (intStr (j : Nat)).length ≤ 2 := by decide +kernel
        exact this k hk
      have hlen : 1 + (intStr k).length ≤ 16777216 := by omega
      have e0 : ((env.set v none).set v (some (W.int k)))[v]? = some (some (.int k)) := List.getElem?_set_self (by rw [List.length_set]; exact hv)
      have ev : evE pk.pg call (.var v) ((env.set v none).set v (some (W.int k))) s' = .ok (.int k) s' := by rw [xE_var, e0]; rfl
      have e1 := one_str (P := pk.pg) (call := call) (env := (env.set v none).set v (some (W.int k))) (s := s') ev hs (add_str (x := [110]) hlen)
      have e2 : [110] ++ intStr k = ns21.getD k [] := ns_at k hk
      rw [e2] at e1
      refine ⟨(env.set v none).set v (some (W.int k)), ?_, ?_⟩
      · show (if v < (env.set v none).length then _ else none) = _
        rw [if_pos (by rw [List.length_set]; exact hv)]
        rfl
      · rw [xE_tup]
        simp only [bnd, fits, xA_cons, e1, xA_nil, xE_tup, G.ret]
        rfl
    exact lc_mapL (l := List.range n) (f := fun i : Nat => W.int i) (rng_ev ha (rng_many (by omega))) (fun a b h => by injection h with h; exact Int.ofNat.inj h) key (by rw [List.length_range]; show _ ≤ 16777216; omega)
  have e : ((List.range n).map fun i : Nat => W.tup [.str (ns21.getD i []), .tup []]) = (ns21.take n).map fun x => .tup [.str x, .tup []] := by
    rw [← take_range (d := []) (by show n ≤ 21; exact hn), List.map_map]
    rfl
  rw [e] at hl
  rw [x_bi_tuple]
  simp only [bnd, xA_cons, xA_nil, hl, G.ret]
  rfl
end K18

set_option Elab.async false
set_option linter.all false
set_option autoImplicit false
set_option maxRecDepth 100000
set_option maxHeartbeats 4000000
namespace K18
open G Pr
def som1 (x : W) (z : Nam) (L : List W) : List W := [.tup [x, .tup L], .tup [.str z, .tup (L ++ [.str z])], .tup [.str z, .tup (L ++ cut L none (some 1))], .tup [.str z, .tup (L ++ [.str [122, 122]])]]
def som2 (z : Nam) (L : List W) : List W := [.tup [.str z, .tup (L ++ [.str [111, 98, 106, 101, 99, 116]])], .tup [.str z, .lst L], .tup [.str z, .tup L, .int 1], .tup [.str z], .lst [.str z, .tup L], .str z, .non]
def som3 (z : Nam) (L N : List W) : List W := [.tup [.str z, .tup (L ++ [.non])], .tup [.str z, .tup (L ++ [.tup [.str [112]]])], .tup [.str z, .str [112]], .tup [.str z, .tup (L ++ N)]]
theorem cut_len {L : List W} {lo hi : Option Int} : (cut L lo hi).length ≤ L.length := by
  unfold cut
  rw [List.length_take, List.length_drop]
  omega
theorem cut_mem {L : List W} {lo hi : Option Int} {x : W} (h : x ∈ cut L lo hi) : x ∈ L := List.mem_of_mem_drop (List.mem_of_mem_take h)
section
variable {d : Nat} {e1 e2 e5 e6 e7 e8 e9 e10 e11 : Option W} {z : Nam} {L N : List W} {s s' : G.ST}
theorem some1_ev {x : W} {O : List W} (hL : L.length ≤ 1000) (hx : callD pk.pg d 26 [.ref 0, .lst O] s = .ok x s') :
    evE pk.pg (callD pk.pg d) (.lst (.cons (.tup (.cons (.call 26 (.cons (.var 0) (.cons (.var 5) .nil))) (.cons (.var 4) .nil))) (.cons (.tup (.cons (.var 3) (.cons (.bin .add (.var 4) (.tup (.cons (.var 3) .nil))) .nil))) (.cons (.tup (.cons (.var 3) (.cons (.bin .add (.var 4) (.sl (.var 4) .no (.itr (.k (.int 1))))) .nil))) (.cons (.tup (.cons (.var 3) (.cons (.bin .add (.var 4) (.tup (.cons (.k (.str [122, 122])) .nil))) .nil))) .nil))))) [some (.ref 0), e1, e2, some (.str z), some (.tup L), some (.lst O), e6, e7, e8, e9, e10, e11] s = .ok (.lst (som1 x z L)) s' := by
  have h1 : L.length + 1 ≤ 16777216 := by omega
  have h2 : L.length + (cut L none (some 1)).length ≤ 16777216 := by
    have := cut_len (L := L) (lo := none) (hi := some 1)
    omega
  simp [bnd, G.ret, rd, opt, eS, item, seqI, seqL, ixOf, cmpop, biop, bInt, bLen, bList, bAbs, binop, big, asg, asgs, fits, line, wEq_str, wEq_int, wEq_bl, bTuple, slice, hx, h1, h2, som1]
theorem some2_ev {A : List W} (hL : L.length ≤ 1000) (hA : A.length ≤ 1000) :
    evE pk.pg (callD pk.pg d) (.bin .add (.var 6) (.lst (.cons (.tup (.cons (.var 3) (.cons (.bin .add (.var 4) (.tup (.cons (.k (.str [111, 98, 106, 101, 99, 116])) .nil))) .nil))) (.cons (.tup (.cons (.var 3) (.cons (.bi .list (.cons (.var 4) .nil)) .nil))) (.cons (.tup (.cons (.var 3) (.cons (.var 4) (.cons (.k (.int 1)) .nil)))) (.cons (.tup (.cons (.var 3) .nil)) (.cons (.lst (.cons (.var 3) (.cons (.var 4) .nil))) (.cons (.var 3) (.cons (.k .non) .nil))))))))) [some (.ref 0), e1, e2, some (.str z), some (.tup L), e5, some (.lst A), e7, e8, e9, e10, e11] s = .ok (.lst (A ++ som2 z L)) s := by
  have h1 : L.length + 1 ≤ 16777216 := by omega
  have h2 : A.length + 7 ≤ 16777216 := by omega
  simp [bnd, G.ret, rd, opt, eS, item, seqI, seqL, ixOf, cmpop, biop, bInt, bLen, bList, bAbs, binop, big, asg, asgs, fits, line, wEq_str, wEq_int, wEq_bl, bTuple, slice, h1, h2, som2]
theorem some3_ev {A : List W} {c : Cl} (hL : L.length ≤ 1000) (hA : A.length ≤ 1000) (hc : c.length ≤ 1000) :
    evE pk.pg (callD pk.pg d) (.bin .add (.var 6) (.lst (.cons (.tup (.cons (.var 3) (.cons (.bin .add (.var 4) (.tup (.cons (.k .non) .nil))) .nil))) (.cons (.tup (.cons (.var 3) (.cons (.bin .add (.var 4) (.tup (.cons (.tup (.cons (.k (.str [112])) .nil)) .nil))) .nil))) (.cons (.tup (.cons (.var 3) (.cons (.k (.str [112])) .nil))) (.cons (.tup (.cons (.var 3) (.cons (.bin .add (.var 4) (.bi .tuple (.cons (.lc (.v 11) (.itr (.var 1)) .nil (.ix (.var 11) (.k (.int 0))) [11]) .nil))) .nil))) .nil)))))) [some (.ref 0), some (clsW c), e2, some (.str z), some (.tup L), e5, some (.lst A), e7, e8, e9, e10, e11] s = .ok (.lst (A ++ som3 z L (sw (nms c)))) s := by
  have h1 : L.length + 1 ≤ 16777216 := by omega
  have h2 : A.length + 4 ≤ 16777216 := by omega
  have hn : (nms c).length = c.length := by unfold nms; rw [List.length_map]
  have h3 : L.length + (sw (nms c)).length ≤ 16777216 := by rw [sw_len]; omega
  have hlc : evE pk.pg (callD pk.pg d) (.lc (.v 11) (.itr (.var 1)) .nil (.ix (.var 11) (.k (.int 0))) [11]) [some (.ref 0), some (clsW c), e2, some (.str z), some (.tup L), e5, some (.lst A), e7, e8, e9, e10, e11] s = .ok (.lst (sw (nms c))) s := by
    unfold nms sw
    rw [List.map_map]
    have key : ∀ r ∈ c, ∃ env', asg (.v 11) (rowW r) (wipes [some (.ref 0), some (clsW c), e2, some (.str z), some (.tup L), e5, some (.lst A), e7, e8, e9, e10, e11] [11]) = some env' ∧ evE pk.pg (callD pk.pg d) (.ix (.var 11) (.k (.int 0))) env' s = .ok (.str r.1) s := fun r hr =>
      ⟨[some (.ref 0), some (clsW c), e2, some (.str z), some (.tup L), e5, some (.lst A), e7, e8, e9, e10, some (rowW r)], rfl, by simp [bnd, G.ret, rd, opt, eS, item, seqI, seqL, ixOf, cmpop, biop, bInt, bLen, bList, bAbs, binop, big, asg, asgs, fits, line, wEq_str, wEq_int, wEq_bl, bTuple, slice, soft_row, i0_row, -item]⟩
    exact lc_mapL (l := c) (f := rowW) (h := fun r => .str r.1) (by simp [bnd, G.ret, rd, opt, eS, item, seqI, seqL, ixOf, cmpop, biop, bInt, bLen, bList, bAbs, binop, big, asg, asgs, fits, line, wEq_str, wEq_int, wEq_bl, bTuple, slice, srcOf]) rowW_inj key (by show _ ≤ 16777216; omega)
  generalize sw (nms c) = nn at *
  generalize clsW c = cw at *
  simp [bnd, G.ret, rd, opt, eS, item, seqI, seqL, ixOf, cmpop, biop, bInt, bLen, bList, bAbs, binop, big, asg, asgs, fits, line, wEq_str, wEq_int, wEq_bl, bTuple, slice, h1, h2, h3, hlc, som3]
theorem bent_ev {A C : List W} {k : Int} {y : W} (h0 : 0 ≤ k) (hC : C.length ≤ 1000) (hx : callD pk.pg d 26 [.ref 0, .lst A] s = .ok y s') :
    evE pk.pg (callD pk.pg d) (.bin .add (.bin .add (.sl (.var 1) .no (.itr (.var 2))) (.tup (.cons (.call 26 (.cons (.var 0) (.cons (.var 6) .nil))) .nil))) (.sl (.var 1) (.itr (.bin .add (.var 2) (.k (.int 1)))) .no)) [some (.ref 0), some (.htup C), some (.int k), some (.str z), some (.tup L), e5, some (.lst A), e7, e8, e9, e10, e11] s = .ok (.tup (cut C none (some k) ++ [y] ++ cut C (some (k + 1)) none)) s' := by
  have h1 : (cut C none (some k)).length + 1 ≤ 16777216 := by
    have := cut_len (L := C) (lo := none) (hi := some k)
    omega
  have h2 : (cut C none (some k) ++ [y]).length + (cut C (some (k + 1)) none).length ≤ 16777216 := by
    have := cut_len (L := C) (lo := none) (hi := some k)
    have := cut_len (L := C) (lo := some (k + 1)) (hi := none)
    rw [List.length_append, List.length_singleton]
    omega
  have h3 : (cut C none (some k)).length + 1 + (cut C (some (k + 1)) none).length ≤ 16777216 := by simpa [bnd, G.ret, rd, opt, eS, item, seqI, seqL, ixOf, cmpop, biop, bInt, bLen, bList, bAbs, binop, big, asg, asgs, fits, line, wEq_str, wEq_int, wEq_bl, bTuple, slice] using h2
  simp [bnd, G.ret, rd, opt, eS, item, seqI, seqL, ixOf, cmpop, biop, bInt, bLen, bList, bAbs, binop, big, asg, asgs, fits, line, wEq_str, wEq_int, wEq_bl, bTuple, slice, hx, h1, h3]
end
end K18

set_option Elab.async false
set_option linter.all false
set_option autoImplicit false
set_option maxRecDepth 100000
set_option maxHeartbeats 4000000
namespace K18
open G Pr
abbrev DL (L : List W) : Prop := ∀ p ∈ L, Dat p
theorem dl_sw {L : List Nam} : DL (sw L) := fun p hp => by
  obtain ⟨y, _, rfl⟩ := List.mem_map.mp hp
  exact .str y
theorem dl_app {L M : List W} (h : DL L) (k : DL M) : DL (L ++ M) := fun p hp => by
  rcases List.mem_append.mp hp with hp | hp
  · exact h p hp
  · exact k p hp
theorem dl_one {a : W} (h : Dat a) : DL [a] := fun p hp => by
  rw [List.mem_singleton.mp hp]; exact h
theorem dl_cut {L : List W} {lo hi : Option Int} (h : DL L) : DL (cut L lo hi) := fun p hp => h p (cut_mem hp)
theorem in1_2 {a b : W} (ha : Dat a) (hn : Nm1 a) (hb : Dat b) (hp : ∀ ps, b = .tup ps → DL ps) : In1 (.tup [a, b]) :=
  ⟨.tup _, fun l e => by
    cases e
    exact ⟨fun x hx => by
      simp only [List.mem_cons, List.not_mem_nil, or_false] at hx
      rcases hx with rfl | rfl
      · exact ha
      · exact hb, fun a' b' e => by cases e; exact ⟨hn, hp⟩⟩⟩
theorem in1_t {a : W} {L : List W} (ha : Dat a) (hn : Nm1 a) (h : DL L) : In1 (.tup [a, .tup L]) := in1_2 ha hn (.tup L) fun ps e => by cases e; exact h
theorem in1_no {w : W} (h : Dat w) (hn : ∀ l, w ≠ .tup l) : In1 w := ⟨h, fun l e => (hn l e).elim⟩
theorem nm_str {z : Nam} (h : z ∈ yes ∨ z ∈ no) : Nm1 (.str z) := fun x e => by cases e; exact h
theorem nm_no {w : W} (h : ∀ x, w ≠ .str x) : Nm1 w := fun x e => (h x e).elim
theorem six_yes {z : Nam} (h : z ∈ six) : z ∈ yes ∨ z ∈ no := .inl (List.mem_append_left _ (List.mem_append_left _ h))
theorem odds_in : ∀ x ∈ odds, Dat x ∧ Nm1 x := by
  intro x hx
  simp only [odds, List.mem_cons, List.not_mem_nil, or_false] at hx
  rcases hx with rfl | rfl | rfl | rfl | rfl | rfl | rfl | rfl | rfl | rfl | rfl | rfl | rfl | rfl | rfl | rfl | rfl | rfl | rfl | rfl
  all_goals first
    | exact ⟨.str _, nm_str (by decide +kernel)⟩
    | exact ⟨.int _, nm_no fun _ e => by cases e⟩
    | exact ⟨.non, nm_no fun _ e => by cases e⟩
    | exact ⟨.bl _, nm_no fun _ e => by cases e⟩
    | exact ⟨.tup _, nm_no fun _ e => by cases e⟩
theorem som_in {x : W} {z : Nam} {L N : List W} (hx : Dat x ∧ Nm1 x) (hz : z ∈ six) (hL : DL L) (hN : DL N) : ∀ y ∈ som1 x z L ++ som2 z L ++ som3 z L N, In1 y := by
  have hzn := nm_str (six_yes hz)
  intro y hy
  simp only [som1, som2, som3, List.cons_append, List.nil_append, List.mem_cons, List.not_mem_nil, or_false] at hy
  rcases hy with rfl | rfl | rfl | rfl | rfl | rfl | rfl | rfl | rfl | rfl | rfl | rfl | rfl | rfl | rfl
  · exact in1_t hx.1 hx.2 hL
  · exact in1_t (.str z) hzn (dl_app hL (dl_one (.str z)))
  · exact in1_t (.str z) hzn (dl_app hL (dl_cut hL))
  · exact in1_t (.str z) hzn (dl_app hL (dl_one (.str _)))
  · exact in1_t (.str z) hzn (dl_app hL (dl_one (.str _)))
  · exact in1_2 (.str z) hzn (.lst L) fun ps e => by cases e
  · refine ⟨.tup _, fun l e => ?_⟩
    cases e
    refine ⟨fun a ha => ?_, fun a b e => by cases e⟩
    simp only [List.mem_cons, List.not_mem_nil, or_false] at ha
    rcases ha with rfl | rfl | rfl
    · exact .str z
    · exact .tup L
    · exact .int 1
  · refine ⟨.tup _, fun l e => ?_⟩
    cases e
    refine ⟨fun a ha => ?_, fun a b e => by cases e⟩
    rw [List.mem_singleton.mp ha]
    exact .str z
  · exact in1_no (.lst _) fun l e => by cases e
  · exact in1_no (.str z) fun l e => by cases e
  · exact in1_no .non fun l e => by cases e
  · exact in1_t (.str z) hzn (dl_app hL (dl_one .non))
  · exact in1_t (.str z) hzn (dl_app hL (dl_one (.tup _)))
  · exact in1_2 (.str z) hzn (.str _) fun ps e => by cases e
  · exact in1_t (.str z) hzn (dl_app hL hN)
theorem row_in {c : Cl} (h6 : ∀ x ∈ nms c, x ∈ six) : ∀ r ∈ c.map rowW, In1 r := fun w hw => by
  obtain ⟨r, hr, rfl⟩ := List.mem_map.mp hw
  exact in1_t (.str r.1) (nm_str (six_yes (h6 r.1 (List.mem_map_of_mem (f := fun r : Nam × List Nam => r.1) hr)))) dl_sw
theorem more_in {n : Nat} : ∀ r ∈ (ns21.take n).map (fun x => W.tup [.str x, .tup []]), In1 r := fun w hw => by
  obtain ⟨x, hx, rfl⟩ := List.mem_map.mp hw
  exact in1_t (.str x) (nm_str (.inl (List.mem_append_left _ (List.mem_append_right _ (List.mem_of_mem_take hx))))) (fun p hp => by cases hp)
theorem inv_t {l : List W} (h : ∀ r ∈ l, In1 r) : InV (.tup l) := ⟨.tup l, fun rows e => by cases e; exact h⟩
theorem inv_no {w : W} (h : Dat w) (hn : ∀ l, w ≠ .tup l) : InV w := ⟨h, fun l e => (hn l e).elim⟩
/-- the values that the law picks from -/
def picks (B C : List W) (M : List W) (k : Int) : List W := [.tup B, .tup B, .tup B, .tup B, .tup B, .tup B, .tup B, .tup (C ++ M), .tup (C ++ cut C (some k) (some (k + 1))), .lst C, .non, .tup [], .str [112], .bl true]
theorem picks_in {B C M : List W} {k : Int} (hB : ∀ r ∈ B, In1 r) (hC : ∀ r ∈ C, In1 r) (hM : ∀ r ∈ M, In1 r) : ∀ v ∈ picks B C M k, InV v := by
  intro v hv
  simp only [picks, List.mem_cons, List.not_mem_nil, or_false] at hv
  have app : ∀ {X Y : List W}, (∀ r ∈ X, In1 r) → (∀ r ∈ Y, In1 r) → ∀ r ∈ X ++ Y, In1 r := fun {X Y} h k r hr => by
    rcases List.mem_append.mp hr with hr | hr
    · exact h r hr
    · exact k r hr
  rcases hv with rfl | rfl | rfl | rfl | rfl | rfl | rfl | rfl | rfl | rfl | rfl | rfl | rfl | rfl
  · exact inv_t hB
  · exact inv_t hB
  · exact inv_t hB
  · exact inv_t hB
  · exact inv_t hB
  · exact inv_t hB
  · exact inv_t hB
  · exact inv_t (app hC hM)
  · exact inv_t (app hC fun r hr => hC r (cut_mem hr))
  · exact inv_no (.lst C) fun l e => by cases e
  · exact inv_no .non fun l e => by cases e
  · exact inv_t fun r hr => by cases hr
  · exact inv_no (.str _) fun l e => by cases e
  · exact inv_no (.bl _) fun l e => by cases e
theorem picks_ev {d : Nat} {e3 e4 e5 e6 e9 e10 e11 : Option W} {B C M : List W} {k : Int} (hC : C.length ≤ 1000) (hM : M.length ≤ 1000) (s : G.ST) :
    evE pk.pg (callD pk.pg d) (.lst (.cons (.var 7) (.cons (.var 7) (.cons (.var 7) (.cons (.var 7) (.cons (.var 7) (.cons (.var 7) (.cons (.var 7) (.cons (.bin .add (.var 1) (.var 8)) (.cons (.bin .add (.var 1) (.sl (.var 1) (.itr (.var 2)) (.itr (.bin .add (.var 2) (.k (.int 1)))))) (.cons (.bi .list (.cons (.var 1) .nil)) (.cons (.k .non) (.cons (.tup .nil) (.cons (.k (.str [112])) (.cons (.k (.bl true)) .nil))))))))))))))) [some (.ref 0), some (.htup C), some (.int k), e3, e4, e5, e6, some (.tup B), some (.tup M), e9, e10, e11] s = .ok (.lst (picks B C M k)) s := by
  have h1 : C.length + M.length ≤ 16777216 := by omega
  have h2 : C.length + (cut C (some k) (some (k + 1))).length ≤ 16777216 := by
    have := cut_len (L := C) (lo := some k) (hi := some (k + 1))
    omega
  simp [bnd, G.ret, rd, opt, eS, item, seqI, seqL, ixOf, cmpop, biop, bInt, bLen, bList, bAbs, binop, big, asg, asgs, fits, line, wEq_str, wEq_int, wEq_bl, bTuple, slice, h1, h2, picks]
end K18

set_option Elab.async false
set_option linter.all false
set_option autoImplicit false
set_option maxRecDepth 100000
set_option maxHeartbeats 4000000
namespace K18
open G Pr
theorem bent_ok {d : Nat} {c : Cl} (ok : Ok c) (h6 : ∀ x ∈ nms c, x ∈ six) (hc0 : 0 < c.length) (hc6 : c.length ≤ 6) (a b : Int) (t : G.ST) :
    ∃ (v : W) (a' b' : Int), InV v ∧ callD pk.pg (d + 3) 29 [.ref 0, clsW c] (cup a b t) = .ok v (cup a' b' t) := by
  obtain ⟨k, a1, b1, hk0, hk1, hr1⟩ := roll_law (P := pk.pg) d20 (d + 1) c.length a b t (by omega) (by omega)
  have hkl : k.toNat < c.length := by omega
  obtain ⟨r, hr⟩ : ∃ r, c[k.toNat]? = some r := ⟨_, List.getElem?_eq_getElem hkl⟩
  have hrc := List.mem_of_getElem? hr
  have hz : r.1 ∈ six := h6 r.1 (List.mem_map_of_mem (f := fun r : Nam × List Nam => r.1) hrc)
  have hpl : (sw r.2).length ≤ 4 := by rw [sw_len]; exact ok.pl r hrc
  obtain ⟨i2, x, a2, b2, hx, hr2⟩ := some_law (P := pk.pg) d20 d21 d odds a1 b1 t (by decide) (by decide)
  have hxin := odds_in x (List.mem_of_getElem? hx)
  obtain ⟨i3, y, a3, b3, hy, hr3⟩ := some_law (P := pk.pg) d20 d21 d (som1 x r.1 (sw r.2) ++ som2 r.1 (sw r.2) ++ som3 r.1 (sw r.2) (sw (nms c))) a2 b2 t (by simp [bnd, G.ret, rd, opt, eS, item, seqI, seqL, ixOf, cmpop, biop, bInt, bLen, bList, bAbs, binop, big, asg, asgs, fits, line, wEq_str, wEq_int, wEq_bl, bTuple, slice, som1]) (by simp [bnd, G.ret, rd, opt, eS, item, seqI, seqL, ixOf, cmpop, biop, bInt, bLen, bList, bAbs, binop, big, asg, asgs, fits, line, wEq_str, wEq_int, wEq_bl, bTuple, slice, som1, som2, som3])
  have hyin := som_in hxin hz (dl_sw (L := r.2)) (dl_sw (L := nms c)) y (List.mem_of_getElem? hy)
  obtain ⟨j, a4, b4, hj0, hj1, hr4⟩ := roll_law (P := pk.pg) d20 (d + 1) 2 a3 b3 t (by omega) (by omega)
  have hn : ((21 - c.length - j.toNat : Nat) : Int) = 21 - (c.length : Int) - j := by omega
  have hC := row_in h6
  have hB : ∀ q ∈ cut (c.map rowW) none (some k) ++ [y] ++ cut (c.map rowW) (some (k + 1)) none, In1 q := fun q hq => by
    rcases List.mem_append.mp hq with hq | hq
    · rcases List.mem_append.mp hq with hq | hq
      · exact hC q (cut_mem hq)
      · rw [List.mem_singleton.mp hq]; exact hyin
    · exact hC q (cut_mem hq)
  obtain ⟨i5, v, a5, b5, hv, hr5⟩ := some_law (P := pk.pg) d20 d21 d (picks (cut (c.map rowW) none (some k) ++ [y] ++ cut (c.map rowW) (some (k + 1)) none) (c.map rowW) ((ns21.take (21 - c.length - j.toNat)).map fun x => W.tup [.str x, .tup []]) k) a4 b4 t (by simp [bnd, G.ret, rd, opt, eS, item, seqI, seqL, ixOf, cmpop, biop, bInt, bLen, bList, bAbs, binop, big, asg, asgs, fits, line, wEq_str, wEq_int, wEq_bl, bTuple, slice, picks]) (by simp [bnd, G.ret, rd, opt, eS, item, seqI, seqL, ixOf, cmpop, biop, bInt, bLen, bList, bAbs, binop, big, asg, asgs, fits, line, wEq_str, wEq_int, wEq_bl, bTuple, slice, picks])
  refine ⟨v, a5, b5, picks_in hB hC more_in v (List.mem_of_getElem? hv), ?_⟩
  rw [call_eq (df := ⟨2, 12, b__law_bent_classes⟩) rfl rfl]
  have hlen : biop .len [clsW c] (cup a b t) = some (.int c.length) := by simp [bnd, G.ret, rd, opt, eS, item, seqI, seqL, ixOf, cmpop, biop, bInt, bLen, bList, bAbs, binop, big, asg, asgs, fits, line, wEq_str, wEq_int, wEq_bl, bTuple, slice, clsW]
  have e0 : evE pk.pg (callD pk.pg (d + 2)) (.call 25 (.cons (.var 0) (.cons (.bi .len (.cons (.var 1) .nil)) .nil))) [some (.ref 0), some (clsW c), none, none, none, none, none, none, none, none, none, none] (cup a b t) = .ok (.int k) (cup a1 b1 t) := by
    generalize cup a1 b1 t = s1 at *
    generalize cup a b t = s0 at *
    generalize clsW c = cw at *
    simp [bnd, G.ret, rd, opt, eS, item, seqI, seqL, ixOf, cmpop, biop, bInt, bLen, bList, bAbs, binop, big, asg, asgs, fits, line, wEq_str, wEq_int, wEq_bl, bTuple, slice, hlen, hr1, -biop]
  have e1 : evE pk.pg (callD pk.pg (d + 2)) (.ix (.var 1) (.var 2)) [some (.ref 0), some (clsW c), some (.int k), none, none, none, none, none, none, none, none, none] (cup a1 b1 t) = .ok (rowW r) (cup a1 b1 t) := by
    have hi : item (.tup (c.map rowW)) (.int k) (cup a1 b1 t) = some (rowW r) := by
      have h2 : k < ((c.map rowW).length : Int) := by rw [List.length_map]; omega
      simp only [item, seqI, Option.bind_some, ixOf, hk0, if_true, h2, List.getElem?_map, hr, Option.map_some]
    generalize cup a1 b1 t = s1 at *
    simp [bnd, G.ret, rd, opt, eS, item, seqI, seqL, ixOf, cmpop, biop, bInt, bLen, bList, bAbs, binop, big, asg, asgs, fits, line, wEq_str, wEq_int, wEq_bl, bTuple, slice, soft_cls, hi, -item]
  have a1' : asg (.cons (.v 3) (.cons (.v 4) .nil)) (rowW r) [some (.ref 0), some (clsW c), some (.int k), none, none, none, none, none, none, none, none, none] = some [some (.ref 0), some (clsW c), some (.int k), some (.str r.1), some (.tup (sw r.2)), none, none, none, none, none, none, none] := by
    simp [bnd, G.ret, rd, opt, eS, item, seqI, seqL, ixOf, cmpop, biop, bInt, bLen, bList, bAbs, binop, big, asg, asgs, fits, line, wEq_str, wEq_int, wEq_bl, bTuple, slice, rowW]
  have e2 := fun env => odds_ev (call := callD pk.pg (d + 2)) (env := env) (cup a1 b1 t)
  have e3 := some1_ev (d := d + 2) (e1 := some (clsW c)) (e2 := some (.int k)) (e6 := none) (e7 := none) (e8 := none) (e9 := none) (e10 := none) (e11 := none) (z := r.1) (L := sw r.2) (by omega) hr2
  have e4 := some2_ev (d := d + 2) (e1 := some (clsW c)) (e2 := some (.int k)) (e5 := some (.lst odds)) (e7 := none) (e8 := none) (e9 := none) (e10 := none) (e11 := none) (z := r.1) (L := sw r.2) (s := cup a2 b2 t) (A := som1 x r.1 (sw r.2)) (by omega) (by simp [bnd, G.ret, rd, opt, eS, item, seqI, seqL, ixOf, cmpop, biop, bInt, bLen, bList, bAbs, binop, big, asg, asgs, fits, line, wEq_str, wEq_int, wEq_bl, bTuple, slice, som1])
  have e5 := some3_ev (d := d + 2) (e2 := some (.int k)) (e5 := some (.lst odds)) (e7 := none) (e8 := none) (e9 := none) (e10 := none) (e11 := none) (z := r.1) (L := sw r.2) (s := cup a2 b2 t) (A := som1 x r.1 (sw r.2) ++ som2 r.1 (sw r.2)) (c := c) (by omega) (by simp [bnd, G.ret, rd, opt, eS, item, seqI, seqL, ixOf, cmpop, biop, bInt, bLen, bList, bAbs, binop, big, asg, asgs, fits, line, wEq_str, wEq_int, wEq_bl, bTuple, slice, som1, som2]) (by omega)
  have e6 : evE pk.pg (callD pk.pg (d + 2)) (.bin .add (.bin .add (.sl (.var 1) .no (.itr (.var 2))) (.tup (.cons (.call 26 (.cons (.var 0) (.cons (.var 6) .nil))) .nil))) (.sl (.var 1) (.itr (.bin .add (.var 2) (.k (.int 1)))) .no)) [some (.ref 0), some (clsW c), some (.int k), some (.str r.1), some (.tup (sw r.2)), some (.lst odds), some (.lst (som1 x r.1 (sw r.2) ++ som2 r.1 (sw r.2) ++ som3 r.1 (sw r.2) (sw (nms c)))), none, none, none, none, none] (cup a2 b2 t) = _ :=
    bent_ev (d := d + 2) hk0 (C := c.map rowW) (by rw [List.length_map]; omega) hr3
  have e7 : evE pk.pg (callD pk.pg (d + 2)) (.bi .tuple (.cons (.lc (.v 10) (.rng (.cons (.bin .sub (.bin .sub (.k (.int 21)) (.bi .len (.cons (.var 1) .nil))) (.call 25 (.cons (.var 0) (.cons (.k (.int 2)) .nil)))) .nil)) .nil (.tup (.cons (.bin .add (.k (.str [110])) (.bi .str (.cons (.var 10) .nil))) (.cons (.tup .nil) .nil))) [10]) .nil)) [some (.ref 0), some (clsW c), some (.int k), some (.str r.1), some (.tup (sw r.2)), some (.lst odds), some (.lst (som1 x r.1 (sw r.2) ++ som2 r.1 (sw r.2) ++ som3 r.1 (sw r.2) (sw (nms c)))), some (.tup (cut (c.map rowW) none (some k) ++ [y] ++ cut (c.map rowW) (some (k + 1)) none)), none, none, none, none] (cup a3 b3 t) = .ok (moreW (21 - c.length - j.toNat)) (cup a4 b4 t) := by
    refine more_ev ?_ (by omega) (by simp [bnd, G.ret, rd, opt, eS, item, seqI, seqL, ixOf, cmpop, biop, bInt, bLen, bList, bAbs, binop, big, asg, asgs, fits, line, wEq_str, wEq_int, wEq_bl, bTuple, slice])
    have hlen3 : biop .len [clsW c] (cup a3 b3 t) = some (.int c.length) := by simp [bnd, G.ret, rd, opt, eS, item, seqI, seqL, ixOf, cmpop, biop, bInt, bLen, bList, bAbs, binop, big, asg, asgs, fits, line, wEq_str, wEq_int, wEq_bl, bTuple, slice, clsW]
    rw [hn]
    generalize (.tup (cut (c.map rowW) none (some k) ++ [y] ++ cut (c.map rowW) (some (k + 1)) none) : W) = w7 at *
    generalize (.lst (som1 x r.1 (sw r.2) ++ som2 r.1 (sw r.2) ++ som3 r.1 (sw r.2) (sw (nms c))) : W) = w6 at *
    generalize cup a4 b4 t = s4 at *
    generalize cup a3 b3 t = s3 at *
    generalize clsW c = cw at *
    simp [bnd, G.ret, rd, opt, eS, item, seqI, seqL, ixOf, cmpop, biop, bInt, bLen, bList, bAbs, binop, big, asg, asgs, fits, line, wEq_str, wEq_int, wEq_bl, bTuple, slice, hlen3, hr4, -biop]
  have e8 : evE pk.pg (callD pk.pg (d + 2)) (.lst (.cons (.var 7) (.cons (.var 7) (.cons (.var 7) (.cons (.var 7) (.cons (.var 7) (.cons (.var 7) (.cons (.var 7) (.cons (.bin .add (.var 1) (.var 8)) (.cons (.bin .add (.var 1) (.sl (.var 1) (.itr (.var 2)) (.itr (.bin .add (.var 2) (.k (.int 1)))))) (.cons (.bi .list (.cons (.var 1) .nil)) (.cons (.k .non) (.cons (.tup .nil) (.cons (.k (.str [112])) (.cons (.k (.bl true)) .nil))))))))))))))) [some (.ref 0), some (clsW c), some (.int k), some (.str r.1), some (.tup (sw r.2)), some (.lst odds), some (.lst (som1 x r.1 (sw r.2) ++ som2 r.1 (sw r.2) ++ som3 r.1 (sw r.2) (sw (nms c)))), some (.tup (cut (c.map rowW) none (some k) ++ [y] ++ cut (c.map rowW) (some (k + 1)) none)), some (moreW (21 - c.length - j.toNat)), none, none, none] (cup a4 b4 t) = _ :=
    picks_ev (d := d + 2) (C := c.map rowW) (M := (ns21.take (21 - c.length - j.toNat)).map fun x => W.tup [.str x, .tup []]) (by rw [List.length_map]; omega) (by rw [List.length_map, List.length_take]; have : ns21.length = 21 := rfl; omega) (cup a4 b4 t)
  have e9 : evE pk.pg (callD pk.pg (d + 2)) (.call 26 (.cons (.var 0) (.cons (.var 9) .nil))) [some (.ref 0), some (clsW c), some (.int k), some (.str r.1), some (.tup (sw r.2)), some (.lst odds), some (.lst (som1 x r.1 (sw r.2) ++ som2 r.1 (sw r.2) ++ som3 r.1 (sw r.2) (sw (nms c)))), some (.tup (cut (c.map rowW) none (some k) ++ [y] ++ cut (c.map rowW) (some (k + 1)) none)), some (moreW (21 - c.length - j.toNat)), some (.lst (picks (cut (c.map rowW) none (some k) ++ [y] ++ cut (c.map rowW) (some (k + 1)) none) (c.map rowW) ((ns21.take (21 - c.length - j.toNat)).map fun x => W.tup [.str x, .tup []]) k)), none, none] (cup a4 b4 t) = .ok v (cup a5 b5 t) := by
    generalize picks (cut (c.map rowW) none (some k) ++ [y] ++ cut (c.map rowW) (some (k + 1)) none) (c.map rowW) ((ns21.take (21 - c.length - j.toNat)).map fun x => W.tup [.str x, .tup []]) k = pw at *
    generalize cup a5 b5 t = s5 at *
    generalize cup a4 b4 t = s4 at *
    simp [bnd, G.ret, rd, opt, eS, item, seqI, seqL, ixOf, cmpop, biop, bInt, bLen, bList, bAbs, binop, big, asg, asgs, fits, line, wEq_str, wEq_int, wEq_bl, bTuple, slice, hr5]
  have main : evS pk.pg (callD pk.pg (d + 2)) b__law_bent_classes [some (.ref 0), some (clsW c), none, none, none, none, none, none, none, none, none, none] (cup a b t) = .ok (.rt v) _ (cup a5 b5 t) :=
    (seq_nx (asg_nx e0 rfl)).trans ((seq_nx (asg_nx e1 a1')).trans ((seq_nx (asg_nx (e2 _) rfl)).trans ((seq_nx (asg_nx e3 rfl)).trans ((seq_nx (asg_nx e4 rfl)).trans ((seq_nx (asg_nx e5 rfl)).trans ((seq_nx (asg_nx e6 rfl)).trans ((seq_nx (asg_nx e7 rfl)).trans ((seq_nx (asg_nx e8 rfl)).trans (seq_rt (rt_rt e9))))))))))
  show (match evS pk.pg (callD pk.pg (d + 2)) b__law_bent_classes [some (.ref 0), some (clsW c), none, none, none, none, none, none, none, none, none, none] (cup a b t) with
        | .ok .nx _ s' => R.ok W.non s'
        | .ok (.rt w) _ s' => .ok w s'
        | .exc c l _ s' => .exc c l s'
        | _ => .err) = _
  rw [main]
end K18

set_option Elab.async false
set_option linter.all false
set_option autoImplicit false
set_option maxRecDepth 100000
set_option maxHeartbeats 4000000
namespace K18
open G Pr
/-! what is refused -/
section
variable {c : Cl}
theorem bad_classes {v : W} (hv : InV v) (hb : ¬ GoodV v) (d : Nat) (s : G.ST) : callD pk.pg (d + 6) 14 [v] s = .exc 0 [] s := by
  obtain ⟨b, hg, h⟩ := fits_gen hv d s
  have hbf : b = false := by
    cases b with
    | false => rfl
    | true => exact (hb (hg.mp rfl)).elim
  subst hbf
  rw [call_eq (df := ⟨1, 1, b_need_classes⟩) rfl rfl]
  simp [bnd, G.ret, rd, opt, eS, item, seqI, seqL, ixOf, cmpop, biop, bInt, bLen, bList, bAbs, binop, big, asg, asgs, fits, line, wEq_str, wEq_int, wEq_bl, bIsi, isTy, b_need_classes, h]
theorem bad_prec {v x : W} (hv : InV v) (hb : ¬ GoodV v) (d : Nat) (s : G.ST) : callD pk.pg (d + 7) 18 [v, x] s = .exc 0 [] s := by
  have h := bad_classes hv hb d s
  rw [call_eq (df := ⟨2, 3, b_precedence_of⟩) rfl rfl]
  simp [bnd, G.ret, rd, opt, eS, item, seqI, seqL, ixOf, cmpop, biop, bInt, bLen, bList, bAbs, binop, big, asg, asgs, fits, line, wEq_str, wEq_int, wEq_bl, bIsi, isTy, b_precedence_of, h]
theorem bad_ring {v x : W} (hv : InV v) (hb : ¬ GoodV v) (d : Nat) (s : G.ST) : callD pk.pg (d + 7) 19 [v, x] s = .exc 0 [] s := by
  have h := bad_classes hv hb d s
  rw [call_eq (df := ⟨2, 3, b_ring_of⟩) rfl rfl]
  simp [bnd, G.ret, rd, opt, eS, item, seqI, seqL, ixOf, cmpop, biop, bInt, bLen, bList, bAbs, binop, big, asg, asgs, fits, line, wEq_str, wEq_int, wEq_bl, bIsi, isTy, b_ring_of, h]
/-- no name of these classes -/
def NoName (c : Cl) (x : W) : Prop := Dat x ∧ ∀ y, x = .str y → y ∉ nms c
theorem bad_name {x : W} (hx : NoName c x) (d : Nat) (s : G.ST) : callD pk.pg (d + 1) 16 [.lst (sw (nms c)), x] s = .exc 1 [] s := by
  rw [call_eq (df := ⟨2, 2, b_need_class⟩) rfl rfl]
  obtain ⟨hd, hn⟩ := hx
  cases hd with
  | str y =>
    have hm : cmpop .notin (.str y) (.lst (sw (nms c))) s = some true := by rw [notin_lst, decide_eq_false (hn y rfl)]; rfl
    generalize sw (nms c) = nn at hm
    simp [bnd, G.ret, rd, opt, eS, item, seqI, seqL, ixOf, cmpop, biop, bInt, bLen, bList, bAbs, binop, big, asg, asgs, fits, line, wEq_str, wEq_int, wEq_bl, bIsi, isTy, b_need_class, hm, -cmpop]
  | _ => simp [bnd, G.ret, rd, opt, eS, item, seqI, seqL, ixOf, cmpop, biop, bInt, bLen, bList, bAbs, binop, big, asg, asgs, fits, line, wEq_str, wEq_int, wEq_bl, bIsi, isTy, b_need_class]
theorem names_w {call : Nat → List W → M W} {x : W} (hl : c.length ≤ 20) (s : G.ST) : evE pk.pg call (.lc (.v 2) (.itr (.var 0)) .nil (.ix (.var 2) (.k (.int 0))) [2]) [some (clsW c), some x, none] s = .ok (.lst (sw (nms c))) s := names_ev hl s
theorem prec_name {x : W} (ok : Ok c) (hg : ∀ x ∈ nms c, GN x) (hx : NoName c x) (d : Nat) (s : G.ST) : callD pk.pg (d + 7) 18 [clsW c, x] s = .exc 1 [] s := by
  have h1 := need_ok ok hg d s
  have h2 := names_w (call := callD pk.pg (d + 6)) (c := c) (x := x) ok.len s
  have h3 := bad_name hx (d + 5) s
  rw [call_eq (df := ⟨2, 3, b_precedence_of⟩) rfl rfl]
  generalize sw (nms c) = nn at h2 h3
  simp [bnd, G.ret, rd, opt, eS, item, seqI, seqL, ixOf, cmpop, biop, bInt, bLen, bList, bAbs, binop, big, asg, asgs, fits, line, wEq_str, wEq_int, wEq_bl, bIsi, isTy, b_precedence_of, h1, h2, h3]
theorem ring_name {x : W} (ok : Ok c) (hg : ∀ x ∈ nms c, GN x) (hx : NoName c x) (d : Nat) (s : G.ST) : callD pk.pg (d + 7) 19 [clsW c, x] s = .exc 1 [] s := by
  have h1 := need_ok ok hg d s
  have h2 := names_w (call := callD pk.pg (d + 6)) (c := c) (x := x) ok.len s
  have h3 := bad_name hx (d + 5) s
  rw [call_eq (df := ⟨2, 3, b_ring_of⟩) rfl rfl]
  generalize sw (nms c) = nn at h2 h3
  simp [bnd, G.ret, rd, opt, eS, item, seqI, seqL, ixOf, cmpop, biop, bInt, bLen, bList, bAbs, binop, big, asg, asgs, fits, line, wEq_str, wEq_int, wEq_bl, bIsi, isTy, b_ring_of, h1, h2, h3]
/-- whether all classes have a precedence row -/
def soundB (c : Cl) : Bool := (nms c).all fun n => (prec c n).isSome
theorem sound_ev (ok : Ok c) (hg : ∀ x ∈ nms c, GN x) (d : Nat) (s : G.ST) : callD pk.pg (d + 6) 13 [clsW c] s = .ok (.bl (soundB c)) s := by
  have h1 := fits_ok ok hg d s
  rw [call_eq (df := ⟨1, 2, b_are_sound⟩) rfl rfl]
  have hl := ok.len
  have hlc : evE pk.pg (callD pk.pg (d + 5)) (.lc (.v 1) (.itr (.var 0)) .nil (.cmp .isnot (.call 12 (.cons (.var 0) (.cons (.ix (.var 1) (.k (.int 0))) .nil))) (.k .non)) [1]) [some (clsW c), none] s = .ok (.lst (c.map fun r => .bl (prec c r.1).isSome)) s := by
    have key : ∀ r ∈ c, ∃ env', asg (.v 1) (rowW r) (wipes [some (clsW c), none] [1]) = some env' ∧ evE pk.pg (callD pk.pg (d + 5)) (.cmp .isnot (.call 12 (.cons (.var 0) (.cons (.ix (.var 1) (.k (.int 0))) .nil))) (.k .non)) env' s = .ok (.bl (prec c r.1).isSome) s := fun r hr => by
      have hp := prec_ok ok (List.mem_map_of_mem (f := fun r : Nam × List Nam => r.1) hr) (d + 2) s
      have hs : soft (optW (prec c r.1)) = optW (prec c r.1) := by cases prec c r.1 <;> rfl
      have hc : cmpop .isnot (optW (prec c r.1)) .non s = some (prec c r.1).isSome := by cases prec c r.1 <;> rfl
      refine ⟨[some (clsW c), some (rowW r)], rfl, ?_⟩
      generalize optW (prec c r.1) = w at *
      simp [bnd, G.ret, rd, opt, eS, item, seqI, seqL, ixOf, cmpop, biop, bInt, bLen, bList, bAbs, binop, big, asg, asgs, fits, line, wEq_str, wEq_int, wEq_bl, bIsi, isTy, soft_row, i0_row, -item, hp, hs, hc, -cmpop]
    exact lc_mapL (l := c) (f := rowW) (by simp [bnd, G.ret, rd, opt, eS, item, seqI, seqL, ixOf, cmpop, biop, bInt, bLen, bList, bAbs, binop, big, asg, asgs, fits, line, wEq_str, wEq_int, wEq_bl, bIsi, isTy, srcOf]) rowW_inj key (by show _ ≤ 16777216; omega)
  have ha := all_bl c (fun r => (prec c r.1).isSome) (s := s)
  have e : soundB c = c.all fun r => (prec c r.1).isSome := by
    unfold soundB nms
    rw [List.all_map]
    rfl
  rw [e]
  generalize (c.map fun r => W.bl (prec c r.1).isSome) = bs at hlc ha
  simp [bnd, G.ret, rd, opt, eS, item, seqI, seqL, ixOf, cmpop, biop, bInt, bLen, bList, bAbs, binop, big, asg, asgs, fits, line, wEq_str, wEq_int, wEq_bl, bIsi, isTy, b_are_sound, h1, hlc, ha, -biop]
theorem need_sound_ev (ok : Ok c) (hg : ∀ x ∈ nms c, GN x) (d : Nat) (s : G.ST) : callD pk.pg (d + 7) 15 [clsW c] s = if soundB c then .ok .non s else .exc 0 [] s := by
  have h := sound_ev ok hg d s
  rw [call_eq (df := ⟨1, 1, b_need_sound⟩) rfl rfl]
  cases hb : soundB c <;> (rw [hb] at h; simp [bnd, G.ret, rd, opt, eS, item, seqI, seqL, ixOf, cmpop, biop, bInt, bLen, bList, bAbs, binop, big, asg, asgs, fits, line, wEq_str, wEq_int, wEq_bl, bIsi, isTy, b_need_sound, h])
theorem fits_none (d : Nat) (w : W) (s : G.ST) : callD pk.pg (d + 2) 20 [w, .non] s = .ok (.bl false) s := by
  have h := row_of (w := .non) .non d 4 4 s
  rw [call_eq (df := ⟨2, 7, b_fits_generic⟩) rfl rfl]
  simp [bnd, G.ret, rd, opt, eS, item, seqI, seqL, ixOf, cmpop, biop, bInt, bLen, bList, bAbs, binop, big, asg, asgs, fits, line, wEq_str, wEq_int, wEq_bl, bIsi, isTy, b_fits_generic, h, rowB]
theorem generic_ev (ok : Ok c) (hg : ∀ x ∈ nms c, GN x) (d : Nat) (s : G.ST) : callD pk.pg (d + 8) 22 [clsW c, .non] s = if soundB c then .ok (.bl false) s else .exc 0 [] s := by
  have h := need_sound_ev ok hg d s
  have h2 := fits_none (d + 5) (clsW c) s
  rw [call_eq (df := ⟨2, 2, b_is_generic⟩) rfl rfl]
  cases hb : soundB c <;> (rw [hb] at h; simp [bnd, G.ret, rd, opt, eS, item, seqI, seqL, ixOf, cmpop, biop, bInt, bLen, bList, bAbs, binop, big, asg, asgs, fits, line, wEq_str, wEq_int, wEq_bl, bIsi, isTy, b_is_generic, h, h2])
theorem kinds_ev (ok : Ok c) (hg : ∀ x ∈ nms c, GN x) (hb : soundB c = false) (d : Nat) (s : G.ST) : callD pk.pg (d + 8) 23 [clsW c, .non] s = .exc 0 [] s := by
  have h := need_sound_ev ok hg d s
  rw [hb] at h
  rw [call_eq (df := ⟨2, 2, b_kinds_of⟩) rfl rfl]
  simp [bnd, G.ret, rd, opt, eS, item, seqI, seqL, ixOf, cmpop, biop, bInt, bLen, bList, bAbs, binop, big, asg, asgs, fits, line, wEq_str, wEq_int, wEq_bl, bIsi, isTy, b_kinds_of, h]
end
/-! what is told of a refusal -/
def wClasses : Nam := [99, 108, 97, 115, 115, 101, 115]
def wName : Nam := [110, 97, 109, 101]
theorem tell0 (D : Nat) {l : E} {env : Env} {s : G.ST} (h : evE pk.pg (callD pk.pg D) l env s = .exc 0 [] s) : evE pk.pg (callD pk.pg (D + 2)) (.clo 0 l) env s = .ok (.str wClasses) s := by
  have hg : callD pk.pg (D + 2) pk.pg.defs.length [] s = .ok .non s := by
    rw [callD]
    rfl
  rw [xE_clo, callD_more]
  unfold tellM
  simp only [bnd, hg, h]
  rfl
theorem tell1 (D : Nat) {l : E} {env : Env} {s : G.ST} (h : evE pk.pg (callD pk.pg D) l env s = .exc 1 [] s) : evE pk.pg (callD pk.pg (D + 2)) (.clo 0 l) env s = .ok (.str wName) s := by
  have hg : callD pk.pg (D + 2) pk.pg.defs.length [] s = .ok .non s := by
    rw [callD]
    rfl
  rw [xE_clo, callD_more]
  unfold tellM
  simp only [bnd, hg, h]
  rfl
end K18

set_option Elab.async false
set_option linter.all false
set_option autoImplicit false
set_option maxRecDepth 100000
set_option maxHeartbeats 4000000
namespace K18
open G Pr
/-- the law's own look whether all classes have a row -/
theorem sound_law {d : Nat} {c : Cl} (ok : Ok c) {env : Env} (h3 : env[3]? = some (some (clsW c))) (hlen : 15 < env.length) (s : G.ST) :
    ∃ (ys : List W) (J : G.ST), ys.isEmpty = soundB c ∧ evE pk.pg (callD pk.pg (d + 3)) (.lc (.v 15) (.itr (.var 3)) (.cons (.cmp .is (.call 35 (.cons (.var 3) (.cons (.ix (.var 15) (.k (.int 0))) .nil))) (.k .non)) .nil) (.k (.int 1)) [15]) env s = .ok (.lst ys) (s ++ J) := by
  obtain ⟨ys, s2, e, J, hs, hy⟩ := lc_inv (P := pk.pg) (call := callD pk.pg (d + 3)) (t := .v 15) (it := .itr (.var 3)) (ifs := .cons (.cmp .is (.call 35 (.cons (.var 3) (.cons (.ix (.var 15) (.k (.int 0))) .nil))) (.k .non)) .nil) (e := .k (.int 1)) (own := [15]) (env := env) (s := s) (s' := s) (xs := c.map rowW) (by simp [bnd, G.ret, rd, opt, eS, item, seqI, seqL, ixOf, cmpop, biop, bInt, bLen, bList, bAbs, binop, big, asg, asgs, fits, line, wEq_str, wEq_int, wEq_bl, bIsi, isTy, h3, srcOf])
    (fun i ys s' => ∃ J, s' = s ++ J ∧ ys = ((c.take i).filter fun r => !(prec c r.1).isSome).map fun _ => W.int 1) ⟨[], by simp [bnd, G.ret, rd, opt, eS, item, seqI, seqL, ixOf, cmpop, biop, bInt, bLen, bList, bAbs, binop, big, asg, asgs, fits, line, wEq_str, wEq_int, wEq_bl, bIsi, isTy], by simp [bnd, G.ret, rd, opt, eS, item, seqI, seqL, ixOf, cmpop, biop, bInt, bLen, bList, bAbs, binop, big, asg, asgs, fits, line, wEq_str, wEq_int, wEq_bl, bIsi, isTy]⟩
    (fun j x acc s' hj ⟨J, hs, hy⟩ => by
      subst hs
      subst hy
      rw [List.getElem?_map, Option.map_eq_some_iff] at hj
      obtain ⟨r, hr, rfl⟩ := hj
      have hrn : r.1 ∈ nms c := List.mem_map_of_mem (f := fun r : Nam × List Nam => r.1) (List.mem_of_getElem? hr)
      obtain ⟨F, J2, hp⟩ := lprec_ok ok hrn d (s ++ J)
      have hst : sto (s ++ J) F J2 = s ++ (J ++ (sw F :: J2)) := by unfold sto; simp [bnd, G.ret, rd, opt, eS, item, seqI, seqL, ixOf, cmpop, biop, bInt, bLen, bList, bAbs, binop, big, asg, asgs, fits, line, wEq_str, wEq_int, wEq_bl, bIsi, isTy]
      rw [hst] at hp
      have hso : soft (optW (prec c r.1)) = optW (prec c r.1) := by cases prec c r.1 <;> rfl
      have hc : cmpop .is (optW (prec c r.1)) .non (s ++ (J ++ (sw F :: J2))) = some (!(prec c r.1).isSome) := by cases prec c r.1 <;> rfl
      have htk : c.take (j + 1) = c.take j ++ [r] := by
        rw [List.take_succ, hr]
        rfl
      have e1 : ((env.set 15 none).set 15 (some (rowW r)))[3]? = some (some (clsW c)) := by
        rw [List.getElem?_set_ne (by omega), List.getElem?_set_ne (by omega)]; exact h3
      have e2 : ((env.set 15 none).set 15 (some (rowW r)))[15]? = some (some (rowW r)) := List.getElem?_set_self (by rw [List.length_set]; exact hlen)
      refine ⟨(env.set 15 none).set 15 (some (rowW r)), by
        show (if 15 < (env.set 15 none).length then some ((env.set 15 none).set 15 (some (rowW r))) else none) = _
        exact if_pos (by rw [List.length_set]; exact hlen), ?_⟩
      have hev : evB pk.pg (callD pk.pg (d + 3)) (.cons (.cmp .is (.call 35 (.cons (.var 3) (.cons (.ix (.var 15) (.k (.int 0))) .nil))) (.k .non)) .nil) ((env.set 15 none).set 15 (some (rowW r))) (s ++ J) = .ok (!(prec c r.1).isSome) (s ++ (J ++ (sw F :: J2))) := by
        generalize (env.set 15 none).set 15 (some (rowW r)) = en at *
        generalize optW (prec c r.1) = w at *
        generalize (prec c r.1).isSome = q at *
        simp only [xB_cons, xB_nil, xE_cmp, xE_call, xA_cons, xA_nil, xE_var, e1, xE_ix, e2, xE_k]
        simp [bnd, G.ret, rd, opt, eS, item, seqI, seqL, ixOf, cmpop, biop, bInt, bLen, bList, bAbs, binop, big, asg, asgs, fits, line, wEq_str, wEq_int, wEq_bl, bIsi, isTy, soft_row, i0_row, -item, hp, hso, hc, -cmpop]
        cases q <;> rfl
      rw [htk, List.filter_append]
      cases hq : (prec c r.1).isSome with
      | true =>
        rw [hq] at hev
        have hf : ([r].filter fun r => !(prec c r.1).isSome) = [] := by rw [List.filter_cons_of_neg (by rw [hq]; decide)]; rfl
        exact .inl ⟨_, hev, _, rfl, by rw [hf, List.append_nil]⟩
      | false =>
        rw [hq] at hev
        have hf : ([r].filter fun r => !(prec c r.1).isSome) = [r] := by rw [List.filter_cons_of_pos (by rw [hq]; decide)]; rfl
        exact .inr ⟨_, _, _, hev, by rw [xE_k]; rfl, _, rfl, by rw [hf, List.map_append]; rfl⟩)
    (fun ys s' ⟨_, _, h⟩ => by
      rw [h, List.length_map]
      have := List.length_filter_le (fun r => !(prec c r.1).isSome) (c.take (c.map rowW).length)
      rw [List.length_take] at this
      have := ok.len
      show _ ≤ 16777216
      omega)
  subst hs
  refine ⟨ys, J, ?_, e⟩
  rw [hy, List.length_map, List.take_length, filt_nil]
  unfold soundB nms
  rw [List.all_map]
  rfl
theorem classes_gen {v : W} (hv : InV v) (d : Nat) (s : G.ST) : ∃ b : Bool, (b = true ↔ GoodV v) ∧ callD pk.pg (d + 6) 17 [v] s = .ok (.bl b) s := by
  obtain ⟨b, hg, h⟩ := fits_gen hv d s
  refine ⟨b, hg, ?_⟩
  rw [call_eq (df := ⟨1, 1, b_is_classes⟩) rfl rfl]
  simp [bnd, G.ret, rd, opt, eS, item, seqI, seqL, ixOf, cmpop, biop, bInt, bLen, bList, bAbs, binop, big, asg, asgs, fits, line, wEq_str, wEq_int, wEq_bl, bIsi, isTy, b_is_classes, h]
theorem ife_no {P : Pg} {call : Nat → List W → M W} {c : E} {a : G.S} {env : Env} {s s' : ST} (h : evE P call c env s = .ok (.bl false) s') : evS P call (.ife c a .nil) env s = .ok .nx env s' := by
  rw [evS]
  simp only [eS, h]
  rw [evS]
theorem and_no {P : Pg} {call : Nat → List W → M W} {a b : E} {env : Env} {s s' : ST} (h : evE P call a env s = .ok (.bl false) s') : evE P call (.and a b) env s = .ok (.bl false) s' := by
  rw [xE_and]
  simp only [bnd, h]
  rfl
theorem and_go {P : Pg} {call : Nat → List W → M W} {a b : E} {env : Env} {s s' : ST} {r : G.R W} (h : evE P call a env s = .ok (.bl true) s') (k : evE P call b env s' = r) : evE P call (.and a b) env s = r := by
  rw [xE_and]
  simp only [bnd, h]
  exact k
theorem not_ev {P : Pg} {call : Nat → List W → M W} {i : Nat} {env : Env} {s : ST} {b : Bool} (h : env[i]? = some (some (.bl b))) : evE P call (.not (.var i)) env s = .ok (.bl !b) s := by
  rw [xE_not, xE_var, h]
  rfl
theorem ne_same {P : Pg} {call : Nat → List W → M W} {a : E} {env : Env} {s s' : ST} {l : Nam} (h : evE P call a env s = .ok (.str l) s') : evE P call (.cmp .ne a (.k (.str l))) env s = .ok (.bl false) s' := by
  rw [xE_cmp, xE_k]
  simp only [bnd, h, G.ret, rd, soft_str]
  have : cmpop .ne (.str l) (.str l) s' = some false := by simp [bnd, G.ret, rd, opt, eS, item, seqI, seqL, ixOf, cmpop, biop, bInt, bLen, bList, bAbs, binop, big, asg, asgs, fits, line, wEq_str, wEq_int, wEq_bl, bIsi, isTy]
  rw [this]
end K18

set_option Elab.async false
set_option linter.all false
set_option autoImplicit false
set_option maxRecDepth 100000
set_option maxHeartbeats 4000000
namespace K18
open G Pr
theorem cup_app {a b : Int} {t J : G.ST} : cup a b t ++ J = cup a b (t ++ J) := rfl
def odd2 (z : Nam) : List W := [.str [122, 122], .str [116], .str [111, 98, 106, 101, 99, 116], .non, .tup [.str z], .int 5, .bl true, .str []]
theorem odd2_no {c : Cl} (h6 : ∀ x ∈ nms c, x ∈ six) {z : Nam} : ∀ x ∈ odd2 z, NoName c x := by
  have hs : ∀ y ∈ [[122, 122], [116], [111, 98, 106, 101, 99, 116], ([] : Nam)], y ∉ six := by decide
  intro x hx
  simp only [odd2, List.mem_cons, List.not_mem_nil, or_false] at hx
  rcases hx with rfl | rfl | rfl | rfl | rfl | rfl | rfl | rfl
  · exact ⟨.str _, fun y e q => by cases e; exact hs _ (by simp [bnd, G.ret, rd, opt, eS, item, seqI, seqL, ixOf, cmpop, biop, bInt, bLen, bList, bAbs, binop, big, asg, asgs, fits, line, wEq_str, wEq_int, wEq_bl, bIsi, isTy]) (h6 _ q)⟩
  · exact ⟨.str _, fun y e q => by cases e; exact hs _ (by simp [bnd, G.ret, rd, opt, eS, item, seqI, seqL, ixOf, cmpop, biop, bInt, bLen, bList, bAbs, binop, big, asg, asgs, fits, line, wEq_str, wEq_int, wEq_bl, bIsi, isTy]) (h6 _ q)⟩
  · exact ⟨.str _, fun y e q => by cases e; exact hs _ (by simp [bnd, G.ret, rd, opt, eS, item, seqI, seqL, ixOf, cmpop, biop, bInt, bLen, bList, bAbs, binop, big, asg, asgs, fits, line, wEq_str, wEq_int, wEq_bl, bIsi, isTy]) (h6 _ q)⟩
  · exact ⟨.non, fun y e => by cases e⟩
  · exact ⟨.tup _, fun y e => by cases e⟩
  · exact ⟨.int _, fun y e => by cases e⟩
  · exact ⟨.bl _, fun y e => by cases e⟩
  · exact ⟨.str _, fun y e q => by cases e; exact hs _ (by simp [bnd, G.ret, rd, opt, eS, item, seqI, seqL, ixOf, cmpop, biop, bInt, bLen, bList, bAbs, binop, big, asg, asgs, fits, line, wEq_str, wEq_int, wEq_bl, bIsi, isTy]) (h6 _ q)⟩
theorem turn {d : Nat} (a b : Int) (t : G.ST) {e0 e2 o3 o4 o5 o6 o7 o8 o9 o10 : Option W} :
    ∃ (p3 p4 p5 p6 p7 p8 p9 p10 : Option W) (a' b' : Int) (t' : G.ST), evS pk.pg (callD pk.pg (d + 10)) (.seq (.asg (.v 3) (.call 28 (.cons (.var 1) (.cons (.bin .add (.k (.int 1)) (.call 25 (.cons (.var 1) (.cons (.k (.int 4)) .nil)))) .nil)))) (.seq (.asg (.cons (.v 4) (.cons (.v 5) .nil)) (.tup (.cons (.call 29 (.cons (.var 1) (.cons (.var 3) .nil))) (.cons (.ix (.ix (.var 3) (.k (.int 0))) (.k (.int 0))) .nil)))) (.seq (.asg (.v 6) (.call 32 (.cons (.var 4) .nil))) (.seq (.asg (.cons (.v 7) (.cons (.v 8) .nil)) (.tup (.cons (.call 17 (.cons (.var 4) .nil)) (.cons (.call 26 (.cons (.var 1) (.cons (.lst (.cons (.var 5) (.cons (.k (.str [122, 122])) (.cons (.k .non) .nil)))) .nil))) .nil)))) (.seq (.ife (.or (.not (.bi .isi (.cons (.var 7) (.cons (.k (.ty "bool")) .nil)))) (.cmp .ne (.var 7) (.var 6))) (.seq (.rt (.k (.bl false))) .nil) .nil) (.seq (.ife (.and (.not (.var 6)) (.cmp .ne (.clo 0 (.call 18 (.cons (.var 4) (.cons (.var 8) .nil)))) (.k (.str [99, 108, 97, 115, 115, 101, 115])))) (.seq (.rt (.k (.bl false))) .nil) .nil) (.seq (.asg (.v 9) (.call 26 (.cons (.var 1) (.cons (.lst (.cons (.k (.str [122, 122])) (.cons (.k (.str [116])) (.cons (.k (.str [111, 98, 106, 101, 99, 116])) (.cons (.k .non) (.cons (.tup (.cons (.var 5) .nil)) (.cons (.k (.int 5)) (.cons (.k (.bl true)) (.cons (.k (.str [])) .nil))))))))) .nil)))) (.seq (.ife (.cmp .ne (.clo 0 (.call 19 (.cons (.var 3) (.cons (.var 9) .nil)))) (.k (.str [110, 97, 109, 101]))) (.seq (.rt (.k (.bl false))) .nil) .nil) (.seq (.ife (.cmp .ne (.clo 0 (.call 18 (.cons (.var 3) (.cons (.var 9) .nil)))) (.k (.str [110, 97, 109, 101]))) (.seq (.rt (.k (.bl false))) .nil) .nil) (.seq (.ife (.and (.not (.var 6)) (.cmp .ne (.clo 0 (.call 19 (.cons (.var 4) (.cons (.var 9) .nil)))) (.k (.str [99, 108, 97, 115, 115, 101, 115])))) (.seq (.rt (.k (.bl false))) .nil) .nil) (.seq (.asg (.v 10) (.cmp .eq (.lc (.v 15) (.itr (.var 3)) (.cons (.cmp .is (.call 35 (.cons (.var 3) (.cons (.ix (.var 15) (.k (.int 0))) .nil))) (.k .non)) .nil) (.k (.int 1)) [15]) (.lst .nil))) (.seq (.ife (.and (.not (.var 10)) (.cmp .ne (.clo 0 (.call 22 (.cons (.var 3) (.cons (.k .non) .nil)))) (.k (.str [99, 108, 97, 115, 115, 101, 115])))) (.seq (.rt (.k (.bl false))) .nil) .nil) (.seq (.ife (.and (.not (.var 10)) (.cmp .ne (.clo 0 (.call 23 (.cons (.var 3) (.cons (.k .non) .nil)))) (.k (.str [99, 108, 97, 115, 115, 101, 115])))) (.seq (.rt (.k (.bl false))) .nil) .nil) (.seq (.ife (.and (.var 10) (.cmp .isnot (.call 22 (.cons (.var 3) (.cons (.k .non) .nil))) (.k (.bl false)))) (.seq (.rt (.k (.bl false))) .nil) .nil) .nil)))))))))))))) [e0, some (.ref 0), e2, o3, o4, o5, o6, o7, o8, o9, o10, none, none, none, none, none] (cup a b t) =
      .ok .nx [e0, some (.ref 0), e2, p3, p4, p5, p6, p7, p8, p9, p10, none, none, none, none, none] (cup a' b' t') := by
  obtain ⟨k, a1, b1, hk0, hk1, hr1⟩ := roll_law (P := pk.pg) d20 (d + 9) 4 a b t (by omega) (by omega)
  obtain ⟨c, a2, b2, t2, hw, ok, ⟨hc0, hc6⟩, h6⟩ := wild_ok (d := d + 7) (m := 1 + k) (by omega) (by omega) a1 b1 t
  have hg : ∀ x ∈ nms c, GN x := fun x hx => gn_six x (h6 x hx)
  obtain ⟨v, a3, b3, hv, hb⟩ := bent_ok (d := d + 7) ok h6 hc0 hc6 a2 b2 (t ++ t2)
  obtain ⟨z, rest, hcz⟩ : ∃ z rest, c = z :: rest := by cases c with
    | nil => cases hc0
    | cons z rest => exact ⟨z, rest, rfl⟩
  obtain ⟨q, hq, hj⟩ := judged_gen hv (d + 8) (cup a3 b3 (t ++ t2))
  obtain ⟨q', hq', hcl⟩ := classes_gen hv (d + 4) (cup a3 b3 (t ++ t2))
  have hqq : q' = q := by
    cases q <;> cases q'
    · rfl
    · exact (Bool.false_ne_true (hq.mpr (hq'.mp rfl))).elim
    · exact (Bool.false_ne_true (hq'.mpr (hq.mp rfl))).elim
    · rfl
  subst hqq
  obtain ⟨i8, x8, a4, b4, hx8, hr8⟩ := some_law (P := pk.pg) d20 d21 (d + 8) [.str z.1, .str [122, 122], .non] a3 b3 (t ++ t2) (by simp [bnd, G.ret, rd, opt, eS, item, seqI, seqL, ixOf, cmpop, biop, bInt, bLen, bList, bAbs, binop, big, asg, asgs, fits, line, wEq_str, wEq_int, wEq_bl, bIsi, isTy]) (by simp [bnd, G.ret, rd, opt, eS, item, seqI, seqL, ixOf, cmpop, biop, bInt, bLen, bList, bAbs, binop, big, asg, asgs, fits, line, wEq_str, wEq_int, wEq_bl, bIsi, isTy])
  obtain ⟨i9, x9, a5, b5, hx9, hr9⟩ := some_law (P := pk.pg) d20 d21 (d + 8) (odd2 z.1) a4 b4 (t ++ t2) (by simp [bnd, G.ret, rd, opt, eS, item, seqI, seqL, ixOf, cmpop, biop, bInt, bLen, bList, bAbs, binop, big, asg, asgs, fits, line, wEq_str, wEq_int, wEq_bl, bIsi, isTy, odd2]) (by simp [bnd, G.ret, rd, opt, eS, item, seqI, seqL, ixOf, cmpop, biop, bInt, bLen, bList, bAbs, binop, big, asg, asgs, fits, line, wEq_str, wEq_int, wEq_bl, bIsi, isTy, odd2])
  have hno := odd2_no h6 x9 (List.mem_of_getElem? hx9)
  obtain ⟨ys, J, hys, hlc⟩ := sound_law (d := d + 7) ok (env := [e0, some (.ref 0), e2, some (clsW c), some v, some (.str z.1), some (.bl q'), some (.bl q'), some x8, some x9, o10, none, none, none, none, none]) rfl (by simp [bnd, G.ret, rd, opt, eS, item, seqI, seqL, ixOf, cmpop, biop, bInt, bLen, bList, bAbs, binop, big, asg, asgs, fits, line, wEq_str, wEq_int, wEq_bl, bIsi, isTy]) (cup a5 b5 (t ++ t2))
  rw [cup_app] at hlc
  refine ⟨some (clsW c), some v, some (.str z.1), some (.bl q'), some (.bl q'), some x8, some x9, some (.bl (soundB c)), a5, b5, t ++ t2 ++ J, ?_⟩
  have s0 : evE pk.pg (callD pk.pg (d + 10)) (.call 28 (.cons (.var 1) (.cons (.bin .add (.k (.int 1)) (.call 25 (.cons (.var 1) (.cons (.k (.int 4)) .nil)))) .nil))) [e0, some (.ref 0), e2, o3, o4, o5, o6, o7, o8, o9, o10, none, none, none, none, none] (cup a b t) = .ok (clsW c) (cup a2 b2 (t ++ t2)) := by
    generalize cup a2 b2 (t ++ t2) = s2 at *
    generalize cup a1 b1 t = s1 at *
    generalize cup a b t = s0 at *
    simp [bnd, G.ret, rd, opt, eS, item, seqI, seqL, ixOf, cmpop, biop, bInt, bLen, bList, bAbs, binop, big, asg, asgs, fits, line, wEq_str, wEq_int, wEq_bl, bIsi, isTy, hr1, hw]
  have s1 : evE pk.pg (callD pk.pg (d + 10)) (.tup (.cons (.call 29 (.cons (.var 1) (.cons (.var 3) .nil))) (.cons (.ix (.ix (.var 3) (.k (.int 0))) (.k (.int 0))) .nil))) [e0, some (.ref 0), e2, some (clsW c), o4, o5, o6, o7, o8, o9, o10, none, none, none, none, none] (cup a2 b2 (t ++ t2)) = .ok (.tup [v, .str z.1]) (cup a3 b3 (t ++ t2)) := by
    have i0 : ∀ s, item (.tup (c.map rowW)) (.int 0) s = some (rowW z) := fun s => by
      rw [hcz]
      simp only [item, seqI, Option.bind_some, ixOf, List.map_cons, List.length_cons]
      rw [if_pos (Int.le_refl 0), if_pos (by omega)]
      rfl
    generalize cup a3 b3 (t ++ t2) = s3 at *
    generalize cup a2 b2 (t ++ t2) = s2 at *
    simp [bnd, G.ret, rd, opt, eS, item, seqI, seqL, ixOf, cmpop, biop, bInt, bLen, bList, bAbs, binop, big, asg, asgs, fits, line, wEq_str, wEq_int, wEq_bl, bIsi, isTy, hb, soft_cls, i0, -item, soft_row, i0_row]
  have s2 : evE pk.pg (callD pk.pg (d + 10)) (.call 32 (.cons (.var 4) .nil)) [e0, some (.ref 0), e2, some (clsW c), some v, some (.str z.1), o6, o7, o8, o9, o10, none, none, none, none, none] (cup a3 b3 (t ++ t2)) = .ok (.bl q') (cup a3 b3 (t ++ t2)) := by
    generalize cup a3 b3 (t ++ t2) = s3 at *
    simp [bnd, G.ret, rd, opt, eS, item, seqI, seqL, ixOf, cmpop, biop, bInt, bLen, bList, bAbs, binop, big, asg, asgs, fits, line, wEq_str, wEq_int, wEq_bl, bIsi, isTy, hj]
  have s3 : evE pk.pg (callD pk.pg (d + 10)) (.tup (.cons (.call 17 (.cons (.var 4) .nil)) (.cons (.call 26 (.cons (.var 1) (.cons (.lst (.cons (.var 5) (.cons (.k (.str [122, 122])) (.cons (.k .non) .nil)))) .nil))) .nil))) [e0, some (.ref 0), e2, some (clsW c), some v, some (.str z.1), some (.bl q'), o7, o8, o9, o10, none, none, none, none, none] (cup a3 b3 (t ++ t2)) = .ok (.tup [.bl q', x8]) (cup a4 b4 (t ++ t2)) := by
    generalize cup a4 b4 (t ++ t2) = s4 at *
    generalize cup a3 b3 (t ++ t2) = s3 at *
    simp [bnd, G.ret, rd, opt, eS, item, seqI, seqL, ixOf, cmpop, biop, bInt, bLen, bList, bAbs, binop, big, asg, asgs, fits, line, wEq_str, wEq_int, wEq_bl, bIsi, isTy, hcl, hr8]
  have s4 : evE pk.pg (callD pk.pg (d + 10)) (.or (.not (.bi .isi (.cons (.var 7) (.cons (.k (.ty "bool")) .nil)))) (.cmp .ne (.var 7) (.var 6))) [e0, some (.ref 0), e2, some (clsW c), some v, some (.str z.1), some (.bl q'), some (.bl q'), some x8, o9, o10, none, none, none, none, none] (cup a4 b4 (t ++ t2)) = .ok (.bl false) (cup a4 b4 (t ++ t2)) := by
    generalize cup a4 b4 (t ++ t2) = s4 at *
    simp [bnd, G.ret, rd, opt, eS, item, seqI, seqL, ixOf, cmpop, biop, bInt, bLen, bList, bAbs, binop, big, asg, asgs, fits, line, wEq_str, wEq_int, wEq_bl, bIsi, isTy]
  have s5 : evE pk.pg (callD pk.pg (d + 10)) (.and (.not (.var 6)) (.cmp .ne (.clo 0 (.call 18 (.cons (.var 4) (.cons (.var 8) .nil)))) (.k (.str [99, 108, 97, 115, 115, 101, 115])))) [e0, some (.ref 0), e2, some (clsW c), some v, some (.str z.1), some (.bl q'), some (.bl q'), some x8, o9, o10, none, none, none, none, none] (cup a4 b4 (t ++ t2)) = .ok (.bl false) (cup a4 b4 (t ++ t2)) := by
    have h1 := not_ev (P := pk.pg) (call := callD pk.pg (d + 10)) (i := 6) (env := [e0, some (.ref 0), e2, some (clsW c), some v, some (.str z.1), some (.bl q'), some (.bl q'), some x8, o9, o10, none, none, none, none, none]) (s := cup a4 b4 (t ++ t2)) rfl
    cases hqv : q' with
    | true =>
      rw [hqv] at h1
      exact and_no h1
    | false =>
      rw [hqv] at h1
      refine and_go h1 (ne_same (tell0 (d + 8) ?_))
      have := bad_prec (x := x8) hv (fun g => by rw [hq'.mpr g] at hqv; cases hqv) (d + 1) (cup a4 b4 (t ++ t2))
      rw [xE_call]
      simp only [xA_cons, xA_nil, xE_var, List.getElem?_cons_succ, List.getElem?_cons_zero, bnd, opt, G.ret]
      exact this
  have s6 : evE pk.pg (callD pk.pg (d + 10)) (.call 26 (.cons (.var 1) (.cons (.lst (.cons (.k (.str [122, 122])) (.cons (.k (.str [116])) (.cons (.k (.str [111, 98, 106, 101, 99, 116])) (.cons (.k .non) (.cons (.tup (.cons (.var 5) .nil)) (.cons (.k (.int 5)) (.cons (.k (.bl true)) (.cons (.k (.str [])) .nil))))))))) .nil))) [e0, some (.ref 0), e2, some (clsW c), some v, some (.str z.1), some (.bl q'), some (.bl q'), some x8, o9, o10, none, none, none, none, none] (cup a4 b4 (t ++ t2)) = .ok x9 (cup a5 b5 (t ++ t2)) := by
    have hr9 : callD pk.pg (d + 8 + 2) 26 [.ref 0, .lst [.str [122, 122], .str [116], .str [111, 98, 106, 101, 99, 116], .non, .tup [.str z.1], .int 5, .bl true, .str []]] (cup a4 b4 (t ++ t2)) = .ok x9 (cup a5 b5 (t ++ t2)) := hr9
    generalize cup a5 b5 (t ++ t2) = s5 at *
    generalize cup a4 b4 (t ++ t2) = s4 at *
    simp [bnd, G.ret, rd, opt, eS, item, seqI, seqL, ixOf, cmpop, biop, bInt, bLen, bList, bAbs, binop, big, asg, asgs, fits, line, wEq_str, wEq_int, wEq_bl, bIsi, isTy, hr9]
  have s7 : evE pk.pg (callD pk.pg (d + 10)) (.cmp .ne (.clo 0 (.call 19 (.cons (.var 3) (.cons (.var 9) .nil)))) (.k (.str [110, 97, 109, 101]))) [e0, some (.ref 0), e2, some (clsW c), some v, some (.str z.1), some (.bl q'), some (.bl q'), some x8, some x9, o10, none, none, none, none, none] (cup a5 b5 (t ++ t2)) = .ok (.bl false) (cup a5 b5 (t ++ t2)) := by
    refine ne_same (tell1 (d + 8) ?_)
    have := ring_name ok hg hno (d + 1) (cup a5 b5 (t ++ t2))
    rw [xE_call]
    simp only [xA_cons, xA_nil, xE_var, List.getElem?_cons_succ, List.getElem?_cons_zero, bnd, opt, G.ret]
    exact this
  have s8 : evE pk.pg (callD pk.pg (d + 10)) (.cmp .ne (.clo 0 (.call 18 (.cons (.var 3) (.cons (.var 9) .nil)))) (.k (.str [110, 97, 109, 101]))) [e0, some (.ref 0), e2, some (clsW c), some v, some (.str z.1), some (.bl q'), some (.bl q'), some x8, some x9, o10, none, none, none, none, none] (cup a5 b5 (t ++ t2)) = .ok (.bl false) (cup a5 b5 (t ++ t2)) := by
    refine ne_same (tell1 (d + 8) ?_)
    have := prec_name ok hg hno (d + 1) (cup a5 b5 (t ++ t2))
    rw [xE_call]
    simp only [xA_cons, xA_nil, xE_var, List.getElem?_cons_succ, List.getElem?_cons_zero, bnd, opt, G.ret]
    exact this
  have s9 : evE pk.pg (callD pk.pg (d + 10)) (.and (.not (.var 6)) (.cmp .ne (.clo 0 (.call 19 (.cons (.var 4) (.cons (.var 9) .nil)))) (.k (.str [99, 108, 97, 115, 115, 101, 115])))) [e0, some (.ref 0), e2, some (clsW c), some v, some (.str z.1), some (.bl q'), some (.bl q'), some x8, some x9, o10, none, none, none, none, none] (cup a5 b5 (t ++ t2)) = .ok (.bl false) (cup a5 b5 (t ++ t2)) := by
    have h1 := not_ev (P := pk.pg) (call := callD pk.pg (d + 10)) (i := 6) (env := [e0, some (.ref 0), e2, some (clsW c), some v, some (.str z.1), some (.bl q'), some (.bl q'), some x8, some x9, o10, none, none, none, none, none]) (s := cup a5 b5 (t ++ t2)) rfl
    cases hqv : q' with
    | true =>
      rw [hqv] at h1
      exact and_no h1
    | false =>
      rw [hqv] at h1
      refine and_go h1 (ne_same (tell0 (d + 8) ?_))
      have := bad_ring (x := x9) hv (fun g => by rw [hq'.mpr g] at hqv; cases hqv) (d + 1) (cup a5 b5 (t ++ t2))
      rw [xE_call]
      simp only [xA_cons, xA_nil, xE_var, List.getElem?_cons_succ, List.getElem?_cons_zero, bnd, opt, G.ret]
      exact this
  have s10 : evE pk.pg (callD pk.pg (d + 10)) (.cmp .eq (.lc (.v 15) (.itr (.var 3)) (.cons (.cmp .is (.call 35 (.cons (.var 3) (.cons (.ix (.var 15) (.k (.int 0))) .nil))) (.k .non)) .nil) (.k (.int 1)) [15]) (.lst .nil)) [e0, some (.ref 0), e2, some (clsW c), some v, some (.str z.1), some (.bl q'), some (.bl q'), some x8, some x9, o10, none, none, none, none, none] (cup a5 b5 (t ++ t2)) = .ok (.bl (soundB c)) (cup a5 b5 (t ++ t2 ++ J)) := by
    have he : cmpop .eq (.lst ys) (.lst []) (cup a5 b5 (t ++ t2 ++ J)) = some (soundB c) := by
      rw [← hys]
      cases ys <;> simp [bnd, G.ret, rd, opt, eS, item, seqI, seqL, ixOf, cmpop, biop, bInt, bLen, bList, bAbs, binop, big, asg, asgs, fits, line, wEq_str, wEq_int, wEq_bl, bIsi, isTy, wEq, deref, eqOk, eqOks, weq, weqs]
    generalize cup a5 b5 (t ++ t2 ++ J) = s6 at *
    generalize cup a5 b5 (t ++ t2) = s5 at *
    generalize soundB c = sb at *
    simp only [xE_cmp, hlc, bnd, xE_lst, fits, xA_nil, G.ret, soft_lst, rd]
    simp [bnd, G.ret, rd, opt, eS, item, seqI, seqL, ixOf, cmpop, biop, bInt, bLen, bList, bAbs, binop, big, asg, asgs, fits, line, wEq_str, wEq_int, wEq_bl, bIsi, isTy, he, -cmpop]
  have s11 : evE pk.pg (callD pk.pg (d + 10)) (.and (.not (.var 10)) (.cmp .ne (.clo 0 (.call 22 (.cons (.var 3) (.cons (.k .non) .nil)))) (.k (.str [99, 108, 97, 115, 115, 101, 115])))) [e0, some (.ref 0), e2, some (clsW c), some v, some (.str z.1), some (.bl q'), some (.bl q'), some x8, some x9, some (.bl (soundB c)), none, none, none, none, none] (cup a5 b5 (t ++ t2 ++ J)) = .ok (.bl false) (cup a5 b5 (t ++ t2 ++ J)) := by
    have h1 := not_ev (P := pk.pg) (call := callD pk.pg (d + 10)) (i := 10) (env := [e0, some (.ref 0), e2, some (clsW c), some v, some (.str z.1), some (.bl q'), some (.bl q'), some x8, some x9, some (.bl (soundB c)), none, none, none, none, none]) (s := cup a5 b5 (t ++ t2 ++ J)) rfl
    have h2 := generic_ev ok hg d (cup a5 b5 (t ++ t2 ++ J))
    cases hb : soundB c with
    | true =>
      rw [hb] at h1
      exact and_no h1
    | false =>
      rw [hb] at h1 h2
      refine and_go h1 (ne_same (tell0 (d + 8) ?_))
      rw [xE_call]
      simp only [xA_cons, xA_nil, xE_var, xE_k, List.getElem?_cons_succ, List.getElem?_cons_zero, bnd, opt, G.ret]
      exact h2
  have s12 : evE pk.pg (callD pk.pg (d + 10)) (.and (.not (.var 10)) (.cmp .ne (.clo 0 (.call 23 (.cons (.var 3) (.cons (.k .non) .nil)))) (.k (.str [99, 108, 97, 115, 115, 101, 115])))) [e0, some (.ref 0), e2, some (clsW c), some v, some (.str z.1), some (.bl q'), some (.bl q'), some x8, some x9, some (.bl (soundB c)), none, none, none, none, none] (cup a5 b5 (t ++ t2 ++ J)) = .ok (.bl false) (cup a5 b5 (t ++ t2 ++ J)) := by
    have h1 := not_ev (P := pk.pg) (call := callD pk.pg (d + 10)) (i := 10) (env := [e0, some (.ref 0), e2, some (clsW c), some v, some (.str z.1), some (.bl q'), some (.bl q'), some x8, some x9, some (.bl (soundB c)), none, none, none, none, none]) (s := cup a5 b5 (t ++ t2 ++ J)) rfl
    cases hb : soundB c with
    | true =>
      rw [hb] at h1
      exact and_no h1
    | false =>
      rw [hb] at h1
      have h2 := kinds_ev ok hg hb d (cup a5 b5 (t ++ t2 ++ J))
      refine and_go h1 (ne_same (tell0 (d + 8) ?_))
      rw [xE_call]
      simp only [xA_cons, xA_nil, xE_var, xE_k, List.getElem?_cons_succ, List.getElem?_cons_zero, bnd, opt, G.ret]
      exact h2
  have s13 : evE pk.pg (callD pk.pg (d + 10)) (.and (.var 10) (.cmp .isnot (.call 22 (.cons (.var 3) (.cons (.k .non) .nil))) (.k (.bl false)))) [e0, some (.ref 0), e2, some (clsW c), some v, some (.str z.1), some (.bl q'), some (.bl q'), some x8, some x9, some (.bl (soundB c)), none, none, none, none, none] (cup a5 b5 (t ++ t2 ++ J)) = .ok (.bl false) (cup a5 b5 (t ++ t2 ++ J)) := by
    have h2 := generic_ev ok hg (d + 2) (cup a5 b5 (t ++ t2 ++ J))
    generalize cup a5 b5 (t ++ t2 ++ J) = s6 at *
    generalize clsW c = cw at *
    cases hb : soundB c with
    | true =>
      rw [hb] at h2
      simp [bnd, G.ret, rd, opt, eS, item, seqI, seqL, ixOf, cmpop, biop, bInt, bLen, bList, bAbs, binop, big, asg, asgs, fits, line, wEq_str, wEq_int, wEq_bl, bIsi, isTy, h2]
    | false => simp [bnd, G.ret, rd, opt, eS, item, seqI, seqL, ixOf, cmpop, biop, bInt, bLen, bList, bAbs, binop, big, asg, asgs, fits, line, wEq_str, wEq_int, wEq_bl, bIsi, isTy]
  refine (seq_nx (asg_nx s0 rfl)).trans ((seq_nx (asg_nx s1 rfl)).trans ((seq_nx (asg_nx s2 rfl)).trans ((seq_nx (asg_nx s3 rfl)).trans ((seq_nx (ife_no s4)).trans ((seq_nx (ife_no s5)).trans ((seq_nx (asg_nx s6 rfl)).trans ((seq_nx (ife_no s7)).trans ((seq_nx (ife_no s8)).trans ((seq_nx (ife_no s9)).trans ((seq_nx (asg_nx s10 rfl)).trans ((seq_nx (ife_no s11)).trans ((seq_nx (ife_no s12)).trans ((seq_nx (ife_no s13)).trans ?_)))))))))))))
  rw [evS]
end K18

set_option Elab.async false
set_option linter.all false
set_option autoImplicit false
set_option maxRecDepth 100000
set_option maxHeartbeats 4000000
namespace K18
open G Pr
def wp : W := .str [112]
def wq : W := .str [113]
def wob : W := .str [111, 98, 106, 101, 99, 116]
def L5 : List W := [.tup [.tup [wp, .tup [wp]]], .tup [.tup [wp, .tup [wq, wq]], .tup [wq, .tup []]], .tup [.tup [wob, .tup []]], .tup [.tup [wp, .tup [wob]]], .tup [.tup [wp, .tup []], .tup [wp, .tup []]]]
theorem no5 : ∀ w ∈ L5, ∀ (d : Nat) (s : G.ST), callD pk.pg (d + 6) 17 [w] s = .ok (.bl false) s := by
  intro w hw
  simp only [L5, List.mem_cons, List.not_mem_nil, or_false] at hw
  rcases hw with rfl | rfl | rfl | rfl | rfl
  all_goals exact fun d s => by kernel_rfl
theorem no21 (d : Nat) (s : G.ST) : callD pk.pg (d + 6) 17 [moreW 21] s = .ok (.bl false) s := by kernel_rfl
theorem yes0 (d : Nat) (s : G.ST) : callD pk.pg (d + 6) 17 [.tup []] s = .ok (.bl true) s := by kernel_rfl
def more20 : W := .tup ((ns21.drop 1).map fun x => .tup [.str x, .tup []])
theorem yes20 (d : Nat) (s : G.ST) : callD pk.pg (d + 6) 17 [more20] s = .ok (.bl true) s := by kernel_rfl
theorem six_ev {call : Nat → List W → M W} {e0 e1 e2 e3 e4 e5 e6 e7 e8 e9 e10 : Option W} (s : G.ST) : evE pk.pg call (.lst (.cons (.tup (.cons (.tup (.cons (.k (.str [112])) (.cons (.tup (.cons (.k (.str [112])) .nil)) .nil))) .nil)) (.cons (.tup (.cons (.tup (.cons (.k (.str [112])) (.cons (.tup (.cons (.k (.str [113])) (.cons (.k (.str [113])) .nil))) .nil))) (.cons (.tup (.cons (.k (.str [113])) (.cons (.tup .nil) .nil))) .nil))) (.cons (.tup (.cons (.tup (.cons (.k (.str [111, 98, 106, 101, 99, 116])) (.cons (.tup .nil) .nil))) .nil)) (.cons (.tup (.cons (.tup (.cons (.k (.str [112])) (.cons (.tup (.cons (.k (.str [111, 98, 106, 101, 99, 116])) .nil)) .nil))) .nil)) (.cons (.tup (.cons (.tup (.cons (.k (.str [112])) (.cons (.tup .nil) .nil))) (.cons (.tup (.cons (.k (.str [112])) (.cons (.tup .nil) .nil))) .nil))) (.cons (.var 11) .nil))))))) [e0, e1, e2, e3, e4, e5, e6, e7, e8, e9, e10, some (moreW 21), none, none, none, none] s = .ok (.lst (L5 ++ [moreW 21])) s := by kernel_rfl
theorem sl_ev {call : Nat → List W → M W} {e0 e1 e2 e3 e4 e5 e6 e7 e8 e9 e10 e12 : Option W} (s : G.ST) : evE pk.pg call (.sl (.var 11) (.itr (.k (.int 1))) .no) [e0, e1, e2, e3, e4, e5, e6, e7, e8, e9, e10, some (moreW 21), e12, none, none, none] s = .ok more20 s := by kernel_rfl
theorem tail_ev {d : Nat} {e0 e1 e2 e3 e4 e5 e6 e7 e8 e9 e10 : Option W} (s : G.ST) : evE pk.pg (callD pk.pg (d + 6)) (.cmp .ne (.lc (.v 14) (.itr (.var 12)) (.cons (.cmp .isnot (.call 17 (.cons (.var 14) .nil)) (.k (.bl false))) .nil) (.k (.int 1)) [14]) (.lst .nil)) [e0, e1, e2, e3, e4, e5, e6, e7, e8, e9, e10, some (moreW 21), some (.lst (L5 ++ [moreW 21])), none, none, none] s = .ok (.bl false) s := by
  have hlc : evE pk.pg (callD pk.pg (d + 6)) (.lc (.v 14) (.itr (.var 12)) (.cons (.cmp .isnot (.call 17 (.cons (.var 14) .nil)) (.k (.bl false))) .nil) (.k (.int 1)) [14]) [e0, e1, e2, e3, e4, e5, e6, e7, e8, e9, e10, some (moreW 21), some (.lst (L5 ++ [moreW 21])), none, none, none] s = .ok (.lst (((L5 ++ [moreW 21]).filter fun _ => false).map fun _ => .int 1)) s := by
    have key : ∀ w ∈ L5 ++ [moreW 21], ∃ env', asg (.v 14) w (wipes [e0, e1, e2, e3, e4, e5, e6, e7, e8, e9, e10, some (moreW 21), some (.lst (L5 ++ [moreW 21])), none, none, none] [14]) = some env' ∧ evB pk.pg (callD pk.pg (d + 6)) (.cons (.cmp .isnot (.call 17 (.cons (.var 14) .nil)) (.k (.bl false))) .nil) env' s = .ok false s ∧ (false = true → evE pk.pg (callD pk.pg (d + 6)) (.k (.int 1)) env' s = .ok (.int 1) s) := fun w hw => by
      have h1 : callD pk.pg (d + 6) 17 [w] s = .ok (.bl false) s := by
        rcases List.mem_append.mp hw with hw | hw
        · exact no5 w hw d s
        · rw [List.mem_singleton.mp hw]; exact no21 d s
      refine ⟨[e0, e1, e2, e3, e4, e5, e6, e7, e8, e9, e10, some (moreW 21), some (.lst (L5 ++ [moreW 21])), none, some w, none], rfl, ?_, fun h => by cases h⟩
      generalize L5 ++ [moreW 21] = l5 at *
      generalize moreW 21 = m at *
      simp [bnd, G.ret, rd, opt, eS, item, seqI, seqL, ixOf, cmpop, biop, bInt, bLen, bList, bAbs, binop, big, asg, asgs, fits, line, wEq_str, wEq_int, wEq_bl, bIsi, isTy, h1]
    exact lc_filtL (l := L5 ++ [moreW 21]) (f := fun w => w) (h := fun _ => .int 1) (p := fun _ => false) (by rw [List.map_id']; generalize L5 ++ [moreW 21] = l5; simp [bnd, G.ret, rd, opt, eS, item, seqI, seqL, ixOf, cmpop, biop, bInt, bLen, bList, bAbs, binop, big, asg, asgs, fits, line, wEq_str, wEq_int, wEq_bl, bIsi, isTy, srcOf]) (fun a b h => h) key (by decide)
  have hf : ((L5 ++ [moreW 21]).filter fun _ => false) = [] := List.filter_eq_nil_iff.mpr fun _ _ h => by cases h
  rw [hf] at hlc
  have hn := ne_lst (l := []) (s := s)
  generalize L5 ++ [moreW 21] = l5 at *
  generalize moreW 21 = m at *
  simp [bnd, G.ret, rd, opt, eS, item, seqI, seqL, ixOf, cmpop, biop, bInt, bLen, bList, bAbs, binop, big, asg, asgs, fits, line, wEq_str, wEq_int, wEq_bl, bIsi, isTy, hlc, hn, -cmpop]
theorem end_ev {d : Nat} {e0 e1 e2 e3 e4 e5 e6 e7 e8 e9 e10 e12 : Option W} (s : G.ST) : evE pk.pg (callD pk.pg (d + 6)) (.and (.cmp .is (.call 17 (.cons (.tup .nil) .nil)) (.k (.bl true))) (.cmp .is (.call 17 (.cons (.sl (.var 11) (.itr (.k (.int 1))) .no) .nil)) (.k (.bl true)))) [e0, e1, e2, e3, e4, e5, e6, e7, e8, e9, e10, some (moreW 21), e12, none, none, none] s = .ok (.bl true) s := by
  have h0 := yes0 d s
  have h1 := yes20 d s
  have h2 := sl_ev (call := callD pk.pg (d + 6)) (e0 := e0) (e1 := e1) (e2 := e2) (e3 := e3) (e4 := e4) (e5 := e5) (e6 := e6) (e7 := e7) (e8 := e8) (e9 := e9) (e10 := e10) (e12 := e12) s
  generalize moreW 21 = m at *
  generalize more20 = m2 at *
  simp [bnd, G.ret, rd, opt, eS, item, seqI, seqL, ixOf, cmpop, biop, bInt, bLen, bList, bAbs, binop, big, asg, asgs, fits, line, wEq_str, wEq_int, wEq_bl, bIsi, isTy, h0, h1, h2, -xE_sl]
theorem loop {d : Nat} (a b : Int) {e0 : Option W} :
    ∃ (p2 p3 p4 p5 p6 p7 p8 p9 p10 : Option W) (a' b' : Int) (t' : G.ST), evS pk.pg (callD pk.pg (d + 10)) (.forr (.v 2) (.rng (.cons (.k (.int 12)) .nil)) (.seq (.asg (.v 3) (.call 28 (.cons (.var 1) (.cons (.bin .add (.k (.int 1)) (.call 25 (.cons (.var 1) (.cons (.k (.int 4)) .nil)))) .nil)))) (.seq (.asg (.cons (.v 4) (.cons (.v 5) .nil)) (.tup (.cons (.call 29 (.cons (.var 1) (.cons (.var 3) .nil))) (.cons (.ix (.ix (.var 3) (.k (.int 0))) (.k (.int 0))) .nil)))) (.seq (.asg (.v 6) (.call 32 (.cons (.var 4) .nil))) (.seq (.asg (.cons (.v 7) (.cons (.v 8) .nil)) (.tup (.cons (.call 17 (.cons (.var 4) .nil)) (.cons (.call 26 (.cons (.var 1) (.cons (.lst (.cons (.var 5) (.cons (.k (.str [122, 122])) (.cons (.k .non) .nil)))) .nil))) .nil)))) (.seq (.ife (.or (.not (.bi .isi (.cons (.var 7) (.cons (.k (.ty "bool")) .nil)))) (.cmp .ne (.var 7) (.var 6))) (.seq (.rt (.k (.bl false))) .nil) .nil) (.seq (.ife (.and (.not (.var 6)) (.cmp .ne (.clo 0 (.call 18 (.cons (.var 4) (.cons (.var 8) .nil)))) (.k (.str [99, 108, 97, 115, 115, 101, 115])))) (.seq (.rt (.k (.bl false))) .nil) .nil) (.seq (.asg (.v 9) (.call 26 (.cons (.var 1) (.cons (.lst (.cons (.k (.str [122, 122])) (.cons (.k (.str [116])) (.cons (.k (.str [111, 98, 106, 101, 99, 116])) (.cons (.k .non) (.cons (.tup (.cons (.var 5) .nil)) (.cons (.k (.int 5)) (.cons (.k (.bl true)) (.cons (.k (.str [])) .nil))))))))) .nil)))) (.seq (.ife (.cmp .ne (.clo 0 (.call 19 (.cons (.var 3) (.cons (.var 9) .nil)))) (.k (.str [110, 97, 109, 101]))) (.seq (.rt (.k (.bl false))) .nil) .nil) (.seq (.ife (.cmp .ne (.clo 0 (.call 18 (.cons (.var 3) (.cons (.var 9) .nil)))) (.k (.str [110, 97, 109, 101]))) (.seq (.rt (.k (.bl false))) .nil) .nil) (.seq (.ife (.and (.not (.var 6)) (.cmp .ne (.clo 0 (.call 19 (.cons (.var 4) (.cons (.var 9) .nil)))) (.k (.str [99, 108, 97, 115, 115, 101, 115])))) (.seq (.rt (.k (.bl false))) .nil) .nil) (.seq (.asg (.v 10) (.cmp .eq (.lc (.v 15) (.itr (.var 3)) (.cons (.cmp .is (.call 35 (.cons (.var 3) (.cons (.ix (.var 15) (.k (.int 0))) .nil))) (.k .non)) .nil) (.k (.int 1)) [15]) (.lst .nil))) (.seq (.ife (.and (.not (.var 10)) (.cmp .ne (.clo 0 (.call 22 (.cons (.var 3) (.cons (.k .non) .nil)))) (.k (.str [99, 108, 97, 115, 115, 101, 115])))) (.seq (.rt (.k (.bl false))) .nil) .nil) (.seq (.ife (.and (.not (.var 10)) (.cmp .ne (.clo 0 (.call 23 (.cons (.var 3) (.cons (.k .non) .nil)))) (.k (.str [99, 108, 97, 115, 115, 101, 115])))) (.seq (.rt (.k (.bl false))) .nil) .nil) (.seq (.ife (.and (.var 10) (.cmp .isnot (.call 22 (.cons (.var 3) (.cons (.k .non) .nil))) (.k (.bl false)))) (.seq (.rt (.k (.bl false))) .nil) .nil) .nil))))))))))))))) [e0, some (.ref 0), none, none, none, none, none, none, none, none, none, none, none, none, none, none] (cup a b []) =
      .ok .nx [e0, some (.ref 0), p2, p3, p4, p5, p6, p7, p8, p9, p10, none, none, none, none, none] (cup a' b' t') := by
  have hit : evI pk.pg (callD pk.pg (d + 10)) (.rng (.cons (.k (.int 12)) .nil)) [e0, some (.ref 0), none, none, none, none, none, none, none, none, none, none, none, none, none, none] (cup a b []) = .ok (.row ((List.range 12).map fun i : Nat => W.int i)) (cup a b []) :=
    rng_ev (xs := [.int 12]) (by simp [bnd, G.ret, rd, opt, eS, item, seqI, seqL, ixOf, cmpop, biop, bInt, bLen, bList, bAbs, binop, big, asg, asgs, fits, line, wEq_str, wEq_int, wEq_bl, bIsi, isTy]) (rng_many (k := 12) (by omega))
  obtain ⟨env', s', hfor, p2, p3, p4, p5, p6, p7, p8, p9, p10, a2, b2, t2, he, hs⟩ := for_inv (P := pk.pg) (call := callD pk.pg (d + 10)) (t := .v 2) (b := (.seq (.asg (.v 3) (.call 28 (.cons (.var 1) (.cons (.bin .add (.k (.int 1)) (.call 25 (.cons (.var 1) (.cons (.k (.int 4)) .nil)))) .nil)))) (.seq (.asg (.cons (.v 4) (.cons (.v 5) .nil)) (.tup (.cons (.call 29 (.cons (.var 1) (.cons (.var 3) .nil))) (.cons (.ix (.ix (.var 3) (.k (.int 0))) (.k (.int 0))) .nil)))) (.seq (.asg (.v 6) (.call 32 (.cons (.var 4) .nil))) (.seq (.asg (.cons (.v 7) (.cons (.v 8) .nil)) (.tup (.cons (.call 17 (.cons (.var 4) .nil)) (.cons (.call 26 (.cons (.var 1) (.cons (.lst (.cons (.var 5) (.cons (.k (.str [122, 122])) (.cons (.k .non) .nil)))) .nil))) .nil)))) (.seq (.ife (.or (.not (.bi .isi (.cons (.var 7) (.cons (.k (.ty "bool")) .nil)))) (.cmp .ne (.var 7) (.var 6))) (.seq (.rt (.k (.bl false))) .nil) .nil) (.seq (.ife (.and (.not (.var 6)) (.cmp .ne (.clo 0 (.call 18 (.cons (.var 4) (.cons (.var 8) .nil)))) (.k (.str [99, 108, 97, 115, 115, 101, 115])))) (.seq (.rt (.k (.bl false))) .nil) .nil) (.seq (.asg (.v 9) (.call 26 (.cons (.var 1) (.cons (.lst (.cons (.k (.str [122, 122])) (.cons (.k (.str [116])) (.cons (.k (.str [111, 98, 106, 101, 99, 116])) (.cons (.k .non) (.cons (.tup (.cons (.var 5) .nil)) (.cons (.k (.int 5)) (.cons (.k (.bl true)) (.cons (.k (.str [])) .nil))))))))) .nil)))) (.seq (.ife (.cmp .ne (.clo 0 (.call 19 (.cons (.var 3) (.cons (.var 9) .nil)))) (.k (.str [110, 97, 109, 101]))) (.seq (.rt (.k (.bl false))) .nil) .nil) (.seq (.ife (.cmp .ne (.clo 0 (.call 18 (.cons (.var 3) (.cons (.var 9) .nil)))) (.k (.str [110, 97, 109, 101]))) (.seq (.rt (.k (.bl false))) .nil) .nil) (.seq (.ife (.and (.not (.var 6)) (.cmp .ne (.clo 0 (.call 19 (.cons (.var 4) (.cons (.var 9) .nil)))) (.k (.str [99, 108, 97, 115, 115, 101, 115])))) (.seq (.rt (.k (.bl false))) .nil) .nil) (.seq (.asg (.v 10) (.cmp .eq (.lc (.v 15) (.itr (.var 3)) (.cons (.cmp .is (.call 35 (.cons (.var 3) (.cons (.ix (.var 15) (.k (.int 0))) .nil))) (.k .non)) .nil) (.k (.int 1)) [15]) (.lst .nil))) (.seq (.ife (.and (.not (.var 10)) (.cmp .ne (.clo 0 (.call 22 (.cons (.var 3) (.cons (.k .non) .nil)))) (.k (.str [99, 108, 97, 115, 115, 101, 115])))) (.seq (.rt (.k (.bl false))) .nil) .nil) (.seq (.ife (.and (.not (.var 10)) (.cmp .ne (.clo 0 (.call 23 (.cons (.var 3) (.cons (.k .non) .nil)))) (.k (.str [99, 108, 97, 115, 115, 101, 115])))) (.seq (.rt (.k (.bl false))) .nil) .nil) (.seq (.ife (.and (.var 10) (.cmp .isnot (.call 22 (.cons (.var 3) (.cons (.k .non) .nil))) (.k (.bl false)))) (.seq (.rt (.k (.bl false))) .nil) .nil) .nil))))))))))))))) hit
    (fun _ env s => ∃ (p2 p3 p4 p5 p6 p7 p8 p9 p10 : Option W) (a b : Int) (t : G.ST), env = [e0, some (.ref 0), p2, p3, p4, p5, p6, p7, p8, p9, p10, none, none, none, none, none] ∧ s = cup a b t)
    ⟨none, none, none, none, none, none, none, none, none, a, b, [], rfl, rfl⟩
    (fun j x env s hj ⟨p2, p3, p4, p5, p6, p7, p8, p9, p10, a, b, t, he, hs⟩ => by
      subst he
      subst hs
      obtain ⟨q3, q4, q5, q6, q7, q8, q9, q10, a', b', t', e⟩ := turn (d := d) a b t (e0 := e0) (e2 := some x) (o3 := p3) (o4 := p4) (o5 := p5) (o6 := p6) (o7 := p7) (o8 := p8) (o9 := p9) (o10 := p10)
      exact ⟨_, _, _, rfl, e, some x, q3, q4, q5, q6, q7, q8, q9, q10, a', b', t', rfl, rfl⟩)
  subst he
  subst hs
  exact ⟨p2, p3, p4, p5, p6, p7, p8, p9, p10, a2, b2, t2, hfor⟩
theorem law_true : LawTrue pk 40 36 63 := by
  intro ns hn hb
  obtain ⟨a, b, ec⟩ := cup_law (P := pk.pg) (n := 24) rfl 38 ns hn
  have ec : callD pk.pg (29 + 10) 24 [.scr ns] [] = .ok (.ref 0) (cup a b []) := ec
  obtain ⟨p2, p3, p4, p5, p6, p7, p8, p9, p10, a1, b1, t1, e1⟩ := loop (d := 29) a b (e0 := some (.scr ns))
  have e0 : evS pk.pg (callD pk.pg (29 + 10)) (.asg (.v 1) (.call 24 (.cons (.var 0) .nil))) [some (.scr ns), none, none, none, none, none, none, none, none, none, none, none, none, none, none, none] [] = .ok .nx [some (.scr ns), some (.ref 0), none, none, none, none, none, none, none, none, none, none, none, none, none, none] (cup a b []) :=
    asg_nx (by rw [xE_call, xA_cons, xA_nil, xE_var]; simp only [bnd, opt, G.ret, List.getElem?_cons_zero]; exact ec) rfl
  have e2 : evE pk.pg (callD pk.pg (29 + 10)) (.bi .tuple (.cons (.lc (.v 13) (.rng (.cons (.k (.int 21)) .nil)) .nil (.tup (.cons (.bin .add (.k (.str [110])) (.bi .str (.cons (.var 13) .nil))) (.cons (.tup .nil) .nil))) [13]) .nil)) [some (.scr ns), some (.ref 0), p2, p3, p4, p5, p6, p7, p8, p9, p10, none, none, none, none, none] (cup a1 b1 t1) = .ok (moreW 21) (cup a1 b1 t1) :=
    more_ev (n := 21) (by simp [bnd, G.ret, rd, opt, eS, item, seqI, seqL, ixOf, cmpop, biop, bInt, bLen, bList, bAbs, binop, big, asg, asgs, fits, line, wEq_str, wEq_int, wEq_bl, bIsi, isTy]) (by omega) (by simp [bnd, G.ret, rd, opt, eS, item, seqI, seqL, ixOf, cmpop, biop, bInt, bLen, bList, bAbs, binop, big, asg, asgs, fits, line, wEq_str, wEq_int, wEq_bl, bIsi, isTy])
  have e3 := six_ev (call := callD pk.pg (29 + 10)) (e0 := some (.scr ns)) (e1 := some (.ref 0)) (e2 := p2) (e3 := p3) (e4 := p4) (e5 := p5) (e6 := p6) (e7 := p7) (e8 := p8) (e9 := p9) (e10 := p10) (cup a1 b1 t1)
  have e4 := tail_ev (d := 33) (e0 := some (.scr ns)) (e1 := some (.ref 0)) (e2 := p2) (e3 := p3) (e4 := p4) (e5 := p5) (e6 := p6) (e7 := p7) (e8 := p8) (e9 := p9) (e10 := p10) (cup a1 b1 t1)
  have e5 := end_ev (d := 33) (e0 := some (.scr ns)) (e1 := some (.ref 0)) (e2 := p2) (e3 := p3) (e4 := p4) (e5 := p5) (e6 := p6) (e7 := p7) (e8 := p8) (e9 := p9) (e10 := p10) (e12 := some (.lst (L5 ++ [moreW 21]))) (cup a1 b1 t1)
  refine ⟨cup a1 b1 t1, ?_⟩
  rw [call_eq (df := ⟨1, 16, b_law⟩) rfl rfl]
  have main : evS pk.pg (callD pk.pg (29 + 10)) b_law [some (.scr ns), none, none, none, none, none, none, none, none, none, none, none, none, none, none, none] [] = .ok (.rt (.bl true)) [some (.scr ns), some (.ref 0), p2, p3, p4, p5, p6, p7, p8, p9, p10, some (moreW 21), some (.lst (L5 ++ [moreW 21])), none, none, none] (cup a1 b1 t1) :=
    (seq_nx e0).trans ((seq_nx e1).trans ((seq_nx (asg_nx e2 rfl)).trans ((seq_nx (asg_nx e3 rfl)).trans ((seq_nx (ife_no e4)).trans (seq_rt (rt_rt e5))))))
  show (match evS pk.pg (callD pk.pg (29 + 10)) b_law [some (.scr ns), none, none, none, none, none, none, none, none, none, none, none, none, none, none, none] [] with
        | .ok .nx _ s' => R.ok W.non s'
        | .ok (.rt w) _ s' => .ok w s'
        | .exc c l _ s' => .exc c l s'
        | _ => .err) = _
  rw [main]
end K18

set_option Elab.async false
set_option linter.all false
set_option maxRecDepth 100000
set_option maxHeartbeats 0
namespace K18
open PySem PySem.Spec PyProof.Rows L2 G
def names0 : List Str := ["LispError", "InvalidNumber", "InvalidClasses", "InvalidName", "InvalidGeneric", "InvalidKinds", "InvalidWorld", "SIZE", "DEPTH", "GREATEST", "LONGEST", "TEXT", "FIGURES", "WITHIN", "SIGNS", "is_whole", "is_row_of", "is_made_of", "is_figures", "fits_word", "fits_name", "fits_special", "fits_text", "is_atom", "measured", "MANY", "FORM_WORDS"]
def names1 : List Str := ["LENGTHS", "BUILTINS", "are_unlike", "fits_tag", "fits_mark", "fits_function", "fits_names", "fits_pairs", "fits_locals", "fits_second", "is_shaped", "in_order", "all_as", "last_parts", "inits_of", "locals_of", "parts_in", "used_in", "frees_in", "forms_in", "fits_form", "TOLD", "MOST", "fits_parents", "fits_classes", "with_above", "orders_in"]
def names2 : List Str := ["free_in", "next_of", "precedence_in", "ring_in", "are_sound", "need_classes", "need_sound", "need_class", "is_classes", "precedence_of", "ring_of", "ROLES", "COMBINERS", "CALLS", "ORDERS", "BODY", "METHODS", "words_in", "is_hidden", "fits_call", "fits_body", "fits_specializer", "fits_order", "fits_way", "fits_method", "fits_generic", "data_in"]
def names3 : List Str := ["kinds_in", "lists_in", "need_generic", "is_generic", "kinds_of", "_law_cup", "_law_roll", "_law_some", "_law_shuffled", "_law_wild", "_law_bent_classes", "_law_is_row", "_law_is_name", "_law_judged", "_law_refusal", "_law_above", "_law_orders", "_law_precedence"]
def names : List Str := names0 ++ names1 ++ names2 ++ names3
abbrev R : PySem.W.OpenRow := PySem.W.OpenLaw.row PySem.Challenge.rw_restartlisp_k18_classes_that_are_refused
abbrev hk : PySem.W.Hook := hookG 3 pk.fa pk.fn pk.lam pk.cs
def ob (s : PySem.W.SharedT) : He.Al × Bool := obG 3 pk.fa pk.fn pk.lam pk.cs s
theorem ob_eq (s : PySem.W.SharedT) : ob s = hk.obs s.abs := obG_eq s
theorem run0 (w : World) : HandSHeadRun.RunEq R (PySem.W.view R.prog [105]) hk ob 20000 names (w.withFollow "special-get-raises" false) := by
  intro os
  kernel_rfl
theorem run1 (w : World) : HandSHeadRun.RunEq R (PySem.W.view R.prog [105]) hk ob 20000 names (w.withFollow "special-get-raises" true) := by
  intro os
  kernel_rfl
theorem run (w : World) : HandSHeadRun.RunEq R (PySem.W.view R.prog [105]) hk ob 20000 names w :=
  PySem.W.byRow2 "special-get-raises" (P := fun w => HandSHeadRun.RunEq R (PySem.W.view R.prog [105]) hk ob 20000 names w) run0 run1 w
end K18

set_option Elab.async false
set_option linter.all false
set_option maxRecDepth 100000
set_option maxHeartbeats 0
open PySem PySem.W PySem.Calls PyProof.Rows
theorem PySem.Challenge.cw_restartlisp_k18_classes_that_are_refused_holds : PySem.Challenge.rw_restartlisp_k18_classes_that_are_refused.Holds := by
  w_on; o_law
  refine HandSHeadRun.head_any (r := OpenLaw.row PySem.Challenge.rw_restartlisp_k18_classes_that_are_refused) (q := view (OpenLaw.row PySem.Challenge.rw_restartlisp_k18_classes_that_are_refused).prog [105]) (H := K18.hk) (ob := K18.ob) (M := 20000) (loose := K18.names) (d := HandSHeadRun.topDef (OpenLaw.row PySem.Challenge.rw_restartlisp_k18_classes_that_are_refused).prog 105) (kwd := []) K18.ob_eq
    (by kernel_rfl) (fun s => by kernel_rfl) K18.run (by kernel_rfl) (by kernel_rfl) (by kernel_rfl) (by rfl) (by first | assumption | decide +kernel) (by decide +kernel) ⟨rfl, rfl, rfl, rfl, rfl, by decide +kernel⟩ ?hw ?hc
  case hw => w_witness2
  case hc =>
    refine LamX.walk_ofTsE (l := PySem.Challenge.rw_restartlisp_k18_classes_that_are_refused) (n := 63) (k := 40) (x := "_law_script") (CX := fun w => L2.CX PySem.Challenge.rw_restartlisp_k18_classes_that_are_refused.prog w) rfl (by decide) (by kernel_rfl) ⟨rfl, by decide, by decide⟩ ?F ?C
    case C =>
      intro w H s e s' h
      exact G.cx_false h
    intro w mg fa h Y X hmg0
    obtain ⟨K, KX, c, tb⟩ := Y
    have hmg : mg ("law" : PySem.Str) = some (.ref fa) := by
      have e : (HandSHeadRun.topDef (OpenLaw.row PySem.Challenge.rw_restartlisp_k18_classes_that_are_refused).prog 105).name = ("law" : PySem.Str) := by kernel_rfl
      rw [← e]
      exact hmg0
    exact ⟨K, KX, G.law_at K18.ok KX X hmg c tb (i := 36) (by rfl) (fun dd hd => by cases hd; rfl) (fun T => K18.tells KX X c.1 T) K18.law_true⟩
