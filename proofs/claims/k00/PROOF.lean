import PyProof.Rows.All
import HandS.Base
import Wide.All
import OpenK.AllK
import Wide.FinOn
import HandS.ForMost
import HandS.ForExc
import HandS.Dict
import HandS.TupAny
import HandS.TupMul
import HandS.Wide
import HandS.Style
import HandS.IsInst
import HandS.Zip
import HandS.Lambda
import HandS.TryMany
import HandS.EndTab
import PyProof.NeData
import PyProof.P3Eq
import HandS.CallSlots
import HandS.Head0
import HandS.Head1
import HandS.Head2
import HandS.HeadEnd
import HandS.HeadHook1
import HandS.HeadWalk
import PyProof.ExcBaseAll.ValueError
import PySem.Challenge.RW_restartlisp_k00_whole_words_and_data
import HandS.HeadHook2
set_option linter.all false
set_option autoImplicit false
/-! G1: values by content, a store, the small language, its evaluator. -/
namespace G
open PySem

/-- values by content; ref: a list of the store; scr: the law's argument; ty: a built-in class; fn: a def of the program; cls: a class of errors -/
inductive W where
  | non | bl (b : Bool) | int (i : Int) | str (l : List Nat)
  | tup (xs : List W) | lst (xs : List W) | dct (ks : List (List Nat)) (vs : List W)
  | ref (n : Nat) | scr (ns : List Int) | ty (s : String) | fn (n : Nat)
  deriving Inhabited

abbrev ST := List (List W)

inductive R (α : Type) where
  | ok (a : α) (s : ST)
  | exc (c : Nat) (l : List W) (s : ST)
  | err

abbrev M (α : Type) := ST → R α
def ret {α : Type} (a : α) : M α := fun s => .ok a s
def fail {α : Type} : M α := fun _ => .err
def bnd {α β : Type} (m : M α) (f : α → M β) : M β := fun s => match m s with
  | .ok a s' => f a s'
  | .exc c l s' => .exc c l s'
  | .err => .err
def opt {α : Type} : Option α → M α
  | some a => ret a
  | none => fail
/-- read the store -/
def rd {α : Type} (f : ST → Option α) : M α := fun s => match f s with
  | some a => .ok a s
  | none => .err

inductive Bop where | add | sub | mul | fdiv | mod | pow
  deriving DecidableEq
inductive Cop where | eq | ne | lt | le | gt | ge | is | isnot | isin | notin
  deriving DecidableEq
/-- built-ins; lenset: len(set(x)); mlist: list(x), a list that may change -/
inductive Bi where | len | abs | int | str | list | mlist | tuple | dict | max | min | sum | all | any | sorted | isi | lenset
  deriving DecidableEq
inductive Me where | append | pop | get | join | index
  deriving DecidableEq

/-- targets -/
inductive T where
  | v (i : Nat) | nil | cons (a b : T)
  deriving DecidableEq

/-- expressions; nil, cons: rows of expressions; rng, enum, zip, items: what is walked alone -/
inductive E where
  | var (i : Nat) | k (w : W) | glob (n : Nat) | fnv (n : Nat)
  | bin (op : Bop) (a b : E) | neg (a : E) | cmp (op : Cop) (a b : E) | chain (op op' : Cop) (a b c : E)
  | and (a b : E) | or (a b : E) | not (a : E) | ife (c a b : E)
  | tup (l : E) | lst (l : E) | mlst (l : E)
  | ix (a b : E) | sl (a lo hi : E) | slx (a lo hi : E) (st : Int) | no | rev (a : E)
  | call (n : Nat) (l : E) | bi (b : Bi) (l : E) | meth (m : Me) (o l : E)
  | lc (t : T) (it : E) (ifs : E) (e : E) (own : List Nat)
  | lzip (a b : E) | lrng (l : E)
  | rng (l : E) | enum (a : E) | zip (a b : E) | itr (a : E)
  | clo (i : Nat) (l : E)
  | nil | cons (a b : E)

inductive S where
  | nil | seq (a b : S)
  | asg (t : T) (e : E) | par2 (i j : Nat) (a b : E) | par3 (i j l : Nat) (a b c : E) | seti (o i e : E)
  | expr (e : E) | rt (e : E) | rtn | ife (c : E) (a b : S)
  | whl (c : E) (b : S) | forr (t : T) (it : E) (b : S)
  | brk | cnt | pass | raise (c : Nat) (l : E)

structure Def where
  np : Nat
  nl : Nat
  body : S

abbrev Env := List (Option W)

/-! ### values -/
def line : Nat := 16777216

mutual
def wdep : W → Nat
  | .tup xs => wdeps xs + 1
  | .lst xs => wdeps xs + 1
  | _ => 0
def wdeps : List W → Nat
  | [] => 0
  | x :: xs => max (wdep x) (wdeps xs)
end

/-! == of Python, on what is compared by content -/
mutual
def weq : W → W → Bool
  | .non, .non => true
  | .bl a, .bl b => a == b
  | .bl a, .int j => (if a then 1 else 0) == j
  | .int i, .bl b => i == (if b then 1 else 0)
  | .int i, .int j => i == j
  | .str x, .str y => x == y
  | .lst xs, .lst ys => weqs xs ys
  | .tup xs, .tup ys => weqs xs ys
  | _, _ => false
def weqs : List W → List W → Bool
  | [], [] => true
  | x :: xs, y :: ys => weq x y && weqs xs ys
  | _, _ => false
end

def isSc : W → Bool
  | .non | .bl _ | .int _ | .str _ => true
  | _ => false
def isSq : W → Bool
  | .lst _ | .tup _ => true
  | _ => false

/-! whether two values may be compared by weq, n deep -/
mutual
def eqOk : Nat → W → W → Bool
  | 0, a, b => (isSc a && (isSc b || isSq b)) || (isSq a && isSc b)
  | n + 1, .lst xs, .lst ys => (xs.length != ys.length) || eqOks n xs ys
  | n + 1, .tup xs, .tup ys => eqOks n xs ys
  | _ + 1, .lst _, b => isSc b || (match b with | .tup _ => true | _ => false)
  | _ + 1, .tup _, b => isSc b || (match b with | .lst _ => true | _ => false)
  | _ + 1, a, b => isSc a && (isSc b || isSq b)
def eqOks : Nat → List W → List W → Bool
  | n, x :: xs, y :: ys => eqOk n x y && eqOks n xs ys
  | _, _, _ => true
end

/-- a list of the store read as what it holds -/
def deref (s : ST) : W → Option W
  | .ref n => match s[n]? with
    | some xs => some (.lst xs)
    | none => none
  | w => some w

def wEq (s : ST) (a b : W) : Option Bool :=
  match deref s a, deref s b with
  | some x, some y => if eqOk 64 x y then some (weq x y) else none
  | _, _ => none

/-- the items of a list -/
def seqL (s : ST) : W → Option (List W)
  | .lst xs => some xs
  | .ref n => s[n]?
  | _ => none
/-- the items of a list or a tuple -/
def seqI (s : ST) : W → Option (List W)
  | .lst xs => some xs
  | .tup xs => some xs
  | .ref n => s[n]?
  | _ => none

def intsW : List W → Option (List Int)
  | [] => some []
  | .int i :: r => (intsW r).map (i :: ·)
  | _ => none
def boolsW : List W → Option (List Bool)
  | [] => some []
  | .bl b :: r => (boolsW r).map (b :: ·)
  | _ => none
def strsW : List W → Option (List (List Nat))
  | [] => some []
  | .str l :: r => (strsW r).map (l :: ·)
  | _ => none

/-- the index in a row of n of i, from the end if below 0 -/
def ixOf (i : Int) (n : Nat) : Option Nat := if 0 ≤ i then (if i < n then some i.toNat else none) else if -(n : Int) ≤ i then some (i + n).toNat else none
/-- the bound of a slice -/
def cutIx (n : Nat) (d : Nat) : Option Int → Nat
  | none => d
  | some v => if v < 0 then (v + (n : Int)).toNat else min v.toNat n
def cut {α : Type} (xs : List α) (lo hi : Option Int) : List α :=
  (xs.drop (cutIx xs.length 0 lo)).take (cutIx xs.length xs.length hi - cutIx xs.length 0 lo)

def digits (n : Nat) : List Nat := (Nat.toDigits 10 n).map Char.toNat
def intStr (i : Int) : List Nat := if i < 0 then 45 :: digits i.natAbs else digits i.natAbs

def rep {α : Type} : Nat → List α → List α
  | 0, _ => []
  | n + 1, xs => xs ++ rep n xs

def big : Int := 2 ^ 64
def binop (op : Bop) (a b : W) (s : ST) : Option W :=
  match op, a, b with
  | .add, .int i, .int j => some (.int (i + j))
  | .add, .str x, .str y => if x.length + y.length ≤ line then some (.str (x ++ y)) else none
  | .add, .tup xs, .tup ys => if xs.length + ys.length ≤ line then some (.tup (xs ++ ys)) else none
  | .add, a, b => match seqL s a, seqL s b with
    | some xs, some ys => if xs.length + ys.length ≤ line then some (.lst (xs ++ ys)) else none
    | _, _ => none
  | .sub, .int i, .int j => some (.int (i - j))
  | .mul, .int i, .int j => if (-big < i ∧ i < big) ∨ (-big < j ∧ j < big) then some (.int (i * j)) else none
  | .fdiv, .int i, .int j => if 0 < j ∧ j < big then some (.int (i / j)) else none
  | .mod, .int i, .int j => if 0 < j then some (.int (i % j)) else none
  | .pow, .int i, .int j => if 0 ≤ j ∧ j ≤ 1000000 ∧ -big < i ∧ i < big then some (.int (i ^ j.toNat)) else none
  | .mul, .tup xs, .int k => if 2 ≤ k ∧ k ≤ 1000 ∧ 0 < xs.length ∧ xs.length ≤ 1000 then some (.tup (rep k.toNat xs)) else none
  | .mul, .lst xs, .int k => if 0 ≤ k ∧ k < 10000 ∧ xs.length * k.toNat ≤ line then some (.lst (rep k.toNat xs)) else none
  | .mul, .str xs, .int k => if 0 ≤ k ∧ k < 10000 ∧ xs.length * k.toNat ≤ line then some (.str (rep k.toNat xs)) else none
  | _, _, _ => none

/-- lexicographic order of texts -/
def slt : List Nat → List Nat → Bool
  | _, [] => false
  | [], _ :: _ => true
  | x :: xs, y :: ys => if x < y then true else if y < x then false else slt xs ys

def memOk : W → List W → Bool
  | x, ys => ys.all fun y => eqOk 63 y x
def cmpop (op : Cop) (a b : W) (s : ST) : Option Bool :=
  match op with
  | .eq => wEq s a b
  | .ne => (wEq s a b).map (!·)
  | .lt => match a, b with
    | .int i, .int j => some (decide (i < j))
    | .str x, .str y => some (slt x y)
    | _, _ => none
  | .le => match a, b with
    | .int i, .int j => some (decide (i ≤ j))
    | .str x, .str y => some (!slt y x)
    | _, _ => none
  | .gt => match a, b with
    | .int i, .int j => some (decide (j < i))
    | .str x, .str y => some (slt y x)
    | _, _ => none
  | .ge => match a, b with
    | .int i, .int j => some (decide (j ≤ i))
    | .str x, .str y => some (!slt x y)
    | _, _ => none
  | .is => match b with
    | .non => some (match a with | .non => true | _ => false)
    | .bl k => match a with | .bl j => some (j == k) | _ => none
    | _ => none
  | .isnot => match b with
    | .non => some (match a with | .non => false | _ => true)
    | .bl k => match a with | .bl j => some (!(j == k)) | _ => none
    | _ => none
  | .isin => match a, b with
    | .str [c], .str y => some (decide (c ∈ y))
    | a, b => match seqI s b with
      | some ys => if memOk a ys then some (ys.any fun y => weq y a) else none
      | none => none
  | .notin => match a, b with
    | .str [c], .str y => some (!decide (c ∈ y))
    | a, b => match seqI s b with
      | some ys => if memOk a ys then some (!ys.any fun y => weq y a) else none
      | none => none

/-- a look-up of a dict with texts as keys -/
def look (k : List Nat) : List (List Nat) → List W → Option W
  | a :: ks, v :: vs => if a = k then some v else look k ks vs
  | _, _ => none
def item (a b : W) (s : ST) : Option W :=
  match a, b with
  | .str x, .int i => if x.length ≤ line then ((ixOf i x.length).bind fun j => x[j]?).map fun c => .str [c] else none
  | .dct ks vs, .str k => look k ks vs
  | a, .int i => (seqI s a).bind fun xs => (ixOf i xs.length).bind fun j => xs[j]?
  | _, _ => none
def slice (a : W) (lo hi : Option Int) (s : ST) : Option W :=
  match a with
  | .str x => if x.length ≤ line then some (.str (cut x lo hi)) else none
  | .tup xs => some (.tup (cut xs lo hi))
  | a => (seqL s a).map fun xs => .lst (cut xs lo hi)

def lmax : List Int → Option Int
  | [] => none
  | x :: xs => some (xs.foldl (fun a b => if a < b then b else a) x)
def lmin : List Int → Option Int
  | [] => none
  | x :: xs => some (xs.foldl (fun a b => if b < a then b else a) x)
def sins (x : List Nat) : List (List Nat) → List (List Nat)
  | [] => [x]
  | y :: ys => if slt y x then y :: sins x ys else x :: y :: ys
def ssort : List (List Nat) → List (List Nat)
  | [] => []
  | x :: xs => sins x (ssort xs)
/-- the pairs of a dict -/
def pairsOf : List W → Option (List (List Nat × W))
  | [] => some []
  | .tup [.str k, v] :: r => (pairsOf r).map ((k, v) :: ·)
  | _ => none
/-- pairs (int, text) -/
def ispairs : List W → Option (List (Int × List Nat))
  | [] => some []
  | .tup [.int i, .str k] :: r => (ispairs r).map ((i, k) :: ·)
  | _ => none
def plt (a b : Int × List Nat) : Bool := if a.1 < b.1 then true else if b.1 < a.1 then false else slt a.2 b.2
def pmax : List (Int × List Nat) → Option (Int × List Nat)
  | [] => none
  | x :: xs => some (xs.foldl (fun a b => if plt a b then b else a) x)
def putS (k : List Nat) (v : W) : List (List Nat × W) → List (List Nat × W)
  | [] => [(k, v)]
  | (a, x) :: r => if a = k then (a, v) :: r else (a, x) :: putS k v r
def dictOf (ps : List (List Nat × W)) : List (List Nat × W) := ps.foldl (fun d p => putS p.1 p.2 d) []

def nodupS : List (List Nat) → Nat
  | [] => 0
  | x :: xs => if x ∈ xs then nodupS xs else nodupS xs + 1

def isTy (w : W) (t : String) : Option Bool :=
  match t with
  | "int" => match w with | .non => some false | .bl _ => some true | .int _ => some true | .str _ => some false | .tup _ => some false | .lst _ => some false | .ref _ => some false | _ => none
  | "bool" => match w with | .non => some false | .bl _ => some true | .int _ => some false | .str _ => some false | .tup _ => some false | .lst _ => some false | .ref _ => some false | _ => none
  | "str" => match w with | .non => some false | .bl _ => some false | .int _ => some false | .str _ => some true | .tup _ => some false | .lst _ => some false | .ref _ => some false | _ => none
  | "tuple" => match w with | .non => some false | .bl _ => some false | .int _ => some false | .str _ => some false | .tup _ => some true | .lst _ => some false | .ref _ => some false | _ => none
  | "list" => match w with | .non => some false | .bl _ => some false | .int _ => some false | .str _ => some false | .tup _ => some false | .lst _ => some true | .ref _ => some true | _ => none
  | _ => none

def bLen (s : ST) : List W → Option W
  | [.str x] => if x.length ≤ line then some (.int x.length) else none
  | [a] => (seqI s a).map fun xs => .int xs.length
  | _ => none
def bAbs : List W → Option W
  | [.int i] => some (.int (if i < 0 then -i else i))
  | _ => none
def bInt : List W → Option W
  | [.int i] => some (.int i)
  | [.bl k] => some (.int (if k then 1 else 0))
  | _ => none
def bList (s : ST) : List W → Option W
  | [.scr ns] => some (.lst (ns.map .int))
  | [a] => (seqI s a).map .lst
  | _ => none
def bTuple (s : ST) : List W → Option W
  | [a] => (seqI s a).map .tup
  | _ => none
def bInts (s : ST) (f : List Int → Option Int) : List W → Option W
  | [a] => (seqL s a).bind fun xs => (intsW xs).bind fun ns => (f ns).map .int
  | _ => none
/-- max, min: of two ints; of a list of ints -/
def bTwo (s : ST) (g : Int → Int → Int) (f : List Int → Option Int) : List W → Option W
  | [.int i, .int j] => some (.int (g i j))
  | l => bInts s f l
def bBools (s : ST) (f : List Bool → Bool) : List W → Option W
  | [a] => (seqL s a).bind fun xs => (boolsW xs).map fun bs => .bl (f bs)
  | _ => none
def bIsi : List W → Option W
  | [a, .ty t] => (isTy a t).map .bl
  | _ => none
def biop (b : Bi) (l : List W) (s : ST) : Option W :=
  match b with
  | .len => bLen s l
  | .abs => bAbs l
  | .int => bInt l
  | .list => bList s l
  | .tuple => bTuple s l
  | .max => bTwo s (fun i j => if j > i then j else i) lmax l
  | .min => bTwo s (fun i j => if j < i then j else i) lmin l
  | .sum => bInts s (fun ns => some ns.sum) l
  | .all => bBools s (fun bs => bs.all id) l
  | .any => bBools s (fun bs => bs.any id) l
  | .isi => bIsi l
  | _ => none

/-- methods: of a list of the store; of a text -/
def mApp (n : Nat) (w : W) : M W := fun s => match s[n]? with
  | some ys => if ys.length < line then .ok .non (s.set n (ys ++ [w])) else .err
  | none => .err
def mPop (n : Nat) (i : Int) : M W := fun s => match s[n]? with
  | some ys => match ixOf i ys.length with
    | some j => match ys[j]? with
      | some y => if -1000000 < i ∧ i < 1000000 then .ok y (s.set n (ys.eraseIdx j)) else .err
      | none => .err
    | none => .err
  | none => .err
def meL (m : Me) (n : Nat) (l : List W) : M W :=
  match m, l with
  | .append, [w] => mApp n w
  | .pop, [.int i] => mPop n i
  | _, _ => fail
def Me.isL : Me → Bool
  | .append => true
  | .pop => true
  | _ => false
def joinS (a : List Nat) : List (List Nat) → List Nat
  | [] => []
  | [p] => p
  | p :: q :: r => p ++ (a ++ joinS a (q :: r))
def meJoin (a : List Nat) (s : ST) : List W → Option W
  | [b] => (seqI s b).bind fun xs => (strsW xs).bind fun ns => if (ns.map (·.length)).sum + ns.length * a.length ≤ line then some (.str (joinS a ns)) else none
  | _ => none
def meS (m : Me) (a : List Nat) (l : List W) : M W :=
  match m with
  | .join => rd fun s => meJoin a s l
  | _ => fail

/-! ### targets -/
mutual
def asg : T → W → Env → Option Env
  | .v i, w, env => if i < env.length then some (env.set i (some w)) else none
  | .nil, .tup [], env => some env
  | .cons a b, .tup (w :: ws), env => (asg a w env).bind fun env' => asgs b ws env'
  | _, _, _ => none
def asgs : T → List W → Env → Option Env
  | .nil, [], env => some env
  | .cons a b, w :: ws, env => (asg a w env).bind fun env' => asgs b ws env'
  | _, _, _ => none
end
def wipes (env : Env) : List Nat → Env
  | [] => env
  | i :: is => (wipes env is).set i none

/-- what is walked: rows, or a list of the store as it stands at each turn (liveE: with its index) -/
inductive Src where
  | row (xs : List W)
  | live (n : Nat)
  | liveE (n : Nat)

def enumW : Nat → List W → List W
  | _, [] => []
  | i, x :: xs => .tup [.int i, x] :: enumW (i + 1) xs
def zipW : List W → List W → List W
  | x :: xs, y :: ys => .tup [x, y] :: zipW xs ys
  | _, _ => []
def rngW (lo : Int) : Nat → List W
  | 0 => []
  | n + 1 => .int lo :: rngW (lo + 1) n
def small : Int := 1000000000
def rngOf : List W → Option (List W)
  | [.int j] => if -small < j ∧ j < small then some (rngW 0 j.toNat) else none
  | [.int i, .int j] => if -small < i ∧ i < small ∧ -small < j ∧ j < small then some (rngW i (j - i).toNat) else none
  | _ => none
def srcOf : W → Option Src
  | .lst xs => some (.row xs)
  | .tup xs => some (.row xs)
  | .str l => some (.row (l.map fun c => .str [c]))
  | .ref n => some (.live n)
  | _ => none
def srcEnum : W → Option Src
  | .lst xs => some (.row (enumW 0 xs))
  | .ref n => some (.liveE n)
  | _ => none
def srcZip (s : ST) : W → W → Option Src
  | .lst xs, .lst ys => some (.row (zipW xs ys))
  | .tup xs, .tup ys => some (.row (zipW xs ys))
  | _, _ => none
/-- the item of turn i; none: it stops -/
def liveAt (n i : Nat) (s : ST) : Option (Option W) :=
  match s[n]? with
  | some xs => some xs[i]?
  | none => none

def ocons : Option W → List W → List W
  | some y, ys => y :: ys
  | none, ys => ys
/-- a comprehension's rounds -/
def comp (f : W → M (Option W)) : List W → M (List W)
  | [] => ret []
  | x :: xs => bnd (f x) fun o => bnd (comp f xs) fun ys => ret (ocons o ys)
def compL (g : Nat → W → W) (f : W → M (Option W)) (n : Nat) : Nat → Nat → M (List W)
  | 0, _ => fail
  | k + 1, i => bnd (rd (liveAt n i)) fun o => match o with
    | none => ret []
    | some x => bnd (f (g i x)) fun o => bnd (compL g f n k (i + 1)) fun ys => ret (ocons o ys)
def compS (f : W → M (Option W)) (fuel : Nat) : Src → M (List W)
  | .row xs => comp f xs
  | .live n => compL (fun _ x => x) f n fuel 0
  | .liveE n => compL (fun i x => .tup [.int i, x]) f n fuel 0
/-- no error leaves a comprehension -/
def noexc {α : Type} (m : M α) : M α := fun s => match m s with
  | .ok a s' => .ok a s'
  | _ => .err
def fits {α : Type} (m : M (List α)) : M (List α) := bnd m fun xs => if xs.length ≤ line then ret xs else fail

/-- what a program has: constants by number; the fuel of its loops -/
structure Pg where
  defs : List Def
  consts : List W
  fuel : Nat
  told : List (List (Option (List Nat)))

/-- a call that tells which error was met: '' if none -/
def tellM (P : Pg) (n : Nat) (m : M W) : M W := fun s => match m s with
  | .ok _ s' => .ok (.str []) s'
  | .exc c _ s' => match (P.told[n]?.bind fun r => r[c]?).join with
    | some t => .ok (.str t) s'
    | none => .err
  | .err => .err

section
variable (P : Pg)
mutual
def evE (call : Nat → List W → M W) : E → Env → M W
  | .var i, env => opt (match env[i]? with | some (some w) => some w | _ => none)
  | .k w, _ => ret w
  | .glob n, _ => opt P.consts[n]?
  | .fnv n, _ => ret (.fn n)
  | .bin op a b, env => bnd (evE call a env) fun x => bnd (evE call b env) fun y => rd (binop op x y)
  | .neg a, env => bnd (evE call a env) fun x => match x with | .int i => ret (.int (-i)) | _ => fail
  | .cmp op a b, env => bnd (evE call a env) fun x => bnd (evE call b env) fun y => bnd (rd (cmpop op x y)) fun r => ret (.bl r)
  | .chain op op' a b c, env => bnd (evE call a env) fun x => bnd (evE call b env) fun y => bnd (rd (cmpop op x y)) fun r =>
      if r then bnd (evE call c env) fun z => bnd (rd (cmpop op' y z)) fun r' => ret (.bl r') else ret (.bl false)
  | .and a b, env => bnd (evE call a env) fun x => match x with | .bl true => evE call b env | .bl false => ret (.bl false) | _ => fail
  | .or a b, env => bnd (evE call a env) fun x => match x with | .bl true => ret (.bl true) | .bl false => evE call b env | _ => fail
  | .not a, env => bnd (evE call a env) fun x => match x with | .bl r => ret (.bl (!r)) | _ => fail
  | .ife c a b, env => bnd (evE call c env) fun x => match x with | .bl true => evE call a env | .bl false => evE call b env | _ => fail
  | .tup l, env => bnd (fits (evA call l env)) fun xs => ret (.tup xs)
  | .lst l, env => bnd (fits (evA call l env)) fun xs => ret (.lst xs)
  | .mlst l, env => bnd (fits (evA call l env)) fun xs => fun s => .ok (.ref s.length) (s ++ [xs])
  | .ix a b, env => bnd (evE call a env) fun x => bnd (evE call b env) fun y => rd (item x y)
  | .sl a lo hi, env => bnd (evE call a env) fun x => bnd (evO call lo env) fun l => bnd (evO call hi env) fun h => rd (slice x l h)
  | .slx a lo hi st, env => fail
  | .no, _ => ret .non
  | .rev a, env => bnd (evE call a env) fun x => bnd (rd fun s => seqL s x) fun xs => ret (.lst xs.reverse)
  | .call n l, env => bnd (evA call l env) fun xs => call n xs
  | .bi .mlist l, env => bnd (evA call l env) fun xs => bnd (rd (biop .list xs)) fun w => match w with
      | .lst ys => fun s => .ok (.ref s.length) (s ++ [ys])
      | _ => fail
  | .bi b l, env => bnd (evA call l env) fun xs => rd (biop b xs)
  | .meth m o l, env => bnd (evE call o env) fun x => match m.isL, x with
      | true, .ref n => bnd (evA call l env) fun xs => meL m n xs
      | false, .str a => bnd (evA call l env) fun xs => meS m a xs
      | _, _ => fail
  | .lc t it ifs e own, env => bnd (evI call it env) fun src => bnd (noexc (fits (compS (fun w =>
      match asg t w (wipes env own) with
      | some env' => bnd (evB call ifs env') fun r => if r then bnd (evE call e env') fun y => ret (some y) else ret none
      | none => fail) P.fuel src))) fun ys => ret (.lst ys)
  | .lzip a b, env => bnd (evE call a env) fun x => bnd (evE call b env) fun y => match x, y with
      | .tup xs, .tup ys => ret (.lst (zipW xs ys))
      | _, _ => fail
  | .lrng l, env => bnd (evA call l env) fun xs => bnd (opt (rngOf xs)) fun ys => ret (.lst ys)
  | .clo n l, env => tellM P n (bnd (call P.defs.length []) fun _ => evE (fun m xs => call (m + (P.defs.length + 1)) xs) l env)
  | _, _ => fail
termination_by structural e => e
def evA (call : Nat → List W → M W) : E → Env → M (List W)
  | .nil, _ => ret []
  | .cons a b, env => bnd (evE call a env) fun x => bnd (evA call b env) fun xs => ret (x :: xs)
  | _, _ => fail
termination_by structural e => e
/-- a bound of a slice -/
def evO (call : Nat → List W → M W) : E → Env → M (Option Int)
  | .no, _ => ret none
  | .itr a, env => bnd (evE call a env) fun x => match x with | .int i => ret (some i) | _ => fail
  | _, _ => fail
termination_by structural e => e
/-- tests one behind the other -/
def evB (call : Nat → List W → M W) : E → Env → M Bool
  | .nil, _ => ret true
  | .cons a b, env => bnd (evE call a env) fun x => match x with | .bl true => evB call b env | .bl false => ret false | _ => fail
  | _, _ => fail
termination_by structural e => e
def evI (call : Nat → List W → M W) : E → Env → M Src
  | .rng l, env => bnd (evA call l env) fun xs => bnd (opt (rngOf xs)) fun ys => ret (.row ys)
  | .enum a, env => bnd (evE call a env) fun x => opt (srcEnum x)
  | .zip a b, env => bnd (evE call a env) fun x => bnd (evE call b env) fun y => rd fun s => srcZip s x y
  | .itr a, env => bnd (evE call a env) fun x => opt (srcOf x)
  | _, _ => fail
termination_by structural e => e
end

end

inductive Fl where | nx | rt (w : W) | bk | ct
inductive RS where
  | ok (f : Fl) (env : Env) (s : ST)
  | exc (c : Nat) (l : List W) (env : Env) (s : ST)
  | err
/-- an expression ahead of a statement's rest -/
def eS {α : Type} (m : M α) (env : Env) (f : α → ST → RS) (s : ST) : RS := match m s with
  | .ok a s' => f a s'
  | .exc c l s' => .exc c l env s'
  | .err => .err
def whileS (c : Env → M W) (b : Env → ST → RS) : Nat → Env → ST → RS
  | 0, _, _ => .err
  | n + 1, env, s => eS (c env) env (fun x s' => match x with
    | .bl true => match b env s' with
      | .ok .nx env' s'' => whileS c b n env' s''
      | .ok .ct env' s'' => whileS c b n env' s''
      | .ok .bk env' s'' => .ok .nx env' s''
      | .ok (.rt w) env' s'' => .ok (.rt w) env' s''
      | .exc c l env' s'' => .exc c l env' s''
      | .err => .err
    | .bl false => .ok .nx env s'
    | _ => .err) s
def forS (b : W → Env → ST → RS) : List W → Env → ST → RS
  | [], env, s => .ok .nx env s
  | x :: xs, env, s => match b x env s with
    | .ok .nx env' s' => forS b xs env' s'
    | .ok .ct env' s' => forS b xs env' s'
    | .ok .bk env' s' => .ok .nx env' s'
    | .ok (.rt w) env' s' => .ok (.rt w) env' s'
    | .exc c l env' s' => .exc c l env' s'
    | .err => .err
def forL (g : Nat → W → W) (b : W → Env → ST → RS) (n : Nat) : Nat → Nat → Env → ST → RS
  | 0, _, _, _ => .err
  | k + 1, i, env, s => match liveAt n i s with
    | none => .err
    | some none => .ok .nx env s
    | some (some x) => match b (g i x) env s with
      | .ok .nx env' s' => forL g b n k (i + 1) env' s'
      | .ok .ct env' s' => forL g b n k (i + 1) env' s'
      | .ok .bk env' s' => .ok .nx env' s'
      | .ok (.rt w) env' s' => .ok (.rt w) env' s'
      | .exc c l env' s' => .exc c l env' s'
      | .err => .err
def forA (b : W → Env → ST → RS) (fuel : Nat) : Src → Env → ST → RS
  | .row xs => forS b xs
  | .live n => forL (fun _ x => x) b n fuel 0
  | .liveE n => forL (fun i x => .tup [.int i, x]) b n fuel 0

section
variable (P : Pg) (call : Nat → List W → M W)
def evS : S → Env → ST → RS
  | .nil, env, s => .ok .nx env s
  | .seq a b, env, s => match evS a env s with
    | .ok .nx env' s' => evS b env' s'
    | r => r
  | .asg t e, env, s => eS (evE P call e env) env (fun w s' => match asg t w env with
    | some env' => .ok .nx env' s'
    | none => .err) s
  | .par2 i j a b, env, s => eS (evE P call a env) env (fun x s' => eS (evE P call b env) env (fun y s'' =>
      if i < env.length ∧ j < env.length ∧ i ≠ j then .ok .nx ((env.set i (some x)).set j (some y)) s'' else .err) s') s
  | .par3 i j l a b c, env, s => eS (evE P call a env) env (fun x s' => eS (evE P call b env) env (fun y s'' => eS (evE P call c env) env (fun z s3 =>
      if i < env.length ∧ j < env.length ∧ l < env.length ∧ i ≠ j ∧ i ≠ l ∧ j ≠ l then .ok .nx (((env.set i (some x)).set j (some y)).set l (some z)) s3 else .err) s'') s') s
  | .seti o i e, env, s => eS (evE P call e env) env (fun w s1 => eS (evE P call o env) env (fun x s2 => eS (evE P call i env) env (fun y s3 =>
      match x, y with
      | .ref n, .int k => match s3[n]? with
        | some ys => match ixOf k ys.length with
          | some j => .ok .nx env (s3.set n (ys.set j w))
          | none => .err
        | none => .err
      | _, _ => .err) s2) s1) s
  | .expr e, env, s => eS (evE P call e env) env (fun _ s' => .ok .nx env s') s
  | .rt e, env, s => eS (evE P call e env) env (fun w s' => .ok (.rt w) env s') s
  | .rtn, env, s => .ok (.rt .non) env s
  | .ife c a b, env, s => eS (evE P call c env) env (fun x s' => match x with
    | .bl true => evS a env s'
    | .bl false => evS b env s'
    | _ => .err) s
  | .whl c b, env, s => whileS (fun env => evE P call c env) (fun env s => evS b env s) P.fuel env s
  | .forr t it b, env, s => eS (evI P call it env) env (fun src s' => forA (fun w env s => match asg t w env with
      | some env' => evS b env' s
      | none => .err) P.fuel src env s') s
  | .brk, env, s => .ok .bk env s
  | .cnt, env, s => .ok .ct env s
  | .pass, env, s => .ok .nx env s
  | .raise c l, env, s => eS (evA P call l env) env (fun xs s' => .exc c xs env s') s
end

/-- a def's call; the number behind the defs: whether two more calls have room; those behind it: the defs, two calls deeper -/
def callD (P : Pg) : Nat → Nat → List W → M W
  | 0, _, _ => fail
  | d + 1, n, args => fun s => match P.defs[n]? with
    | none => (match d with
      | 0 => .err
      | d' + 1 => if n = P.defs.length then .ok .non s else callD P d' (n - (P.defs.length + 1)) args s)
    | some df => if args.length = df.np then
        match evS P (callD P d) df.body (args.map some ++ List.replicate (df.nl - df.np) none) s with
        | .ok .nx _ s' => .ok .non s'
        | .ok (.rt w) _ s' => .ok w s'
        | .exc c l _ s' => .exc c l s'
        | _ => .err
      else .err
theorem callD_more (P : Pg) (d : Nat) : (fun m xs => callD P (d + 2) (m + (P.defs.length + 1)) xs) = callD P d := by
  funext m xs s
  have h1 : P.defs[m + (P.defs.length + 1)]? = none := List.getElem?_eq_none (by omega)
  rw [callD]
  simp only [h1]
  rw [if_neg (by omega)]
  congr 1
  omega
theorem callD_gate {P : Pg} {d : Nat} {s s' : ST} {w : W} (h : callD P d P.defs.length [] s = .ok w s') : ∃ k, d = k + 2 ∧ s' = s := by
  have h1 : P.defs[P.defs.length]? = none := List.getElem?_eq_none (Nat.le_refl _)
  match d, h with
  | 0, h => cases h
  | 1, h => rw [callD] at h; simp only [h1] at h; cases h
  | k + 2, h =>
    rw [callD] at h
    simp only [h1, if_true, R.ok.injEq] at h
    exact ⟨k, rfl, h.2.symm⟩
theorem callD_gateX {P : Pg} {d : Nat} {s s' : ST} {c : Nat} {l : List W} : callD P d P.defs.length [] s ≠ .exc c l s' := fun h => by
  have h1 : P.defs[P.defs.length]? = none := List.getElem?_eq_none (Nat.le_refl _)
  match d, h with
  | 0, h => cases h
  | 1, h => rw [callD] at h; simp only [h1] at h; cases h
  | k + 2, h =>
    rw [callD] at h
    simp only [h1, if_true] at h
    cases h
end G

set_option Elab.async false
set_option linter.all false
set_option autoImplicit false
set_option maxRecDepth 100000
set_option maxHeartbeats 2000000
/-! G2: what a value of G is in the heap; operators. -/
namespace G
open PySem L2

def strOf (l : List Nat) : Str := ⟨l.toArray⟩
def okS (l : List Nat) : Prop := ∀ c ∈ l, c < 0x110000

/-- what the values are told over: the written part, where defs stand -/
structure Cn where
  K : PySem.W.Frag
  fa : Nat → Option Addr
  ca : Nat → Option Addr
  xi : Addr → Prop
  T : List (Addr × Str)
/-- an address hidden: no value is told by it -/
def Cn.hide (C : Cn) (D : Addr) : Cn := { C with xi := fun p => C.xi p ∨ p = D }

/-- a list of the written part -/
def KL (K : PySem.W.Frag) (a : Addr) (xs : List V) : Prop := ∃ (o : Obj) (its : Array Value) (n : Nat), K.lookup a = some o ∧ o.cls = .type "list" ∧ o.dict = none ∧ o.data = .seq its n ∧ its.size ≤ sizeLine ∧ Vals xs its.toList
/-- a tuple of the written part -/
def KT (K : PySem.W.Frag) (a : Addr) (xs : List V) : Prop := ∃ (o : Obj) (its : Array Value) (n : Nat), K.lookup a = some o ∧ o.cls = .type "tuple" ∧ o.data = .seq its n ∧ its.size ≤ sizeLine ∧ Vals xs its.toList

section
variable (C : Cn) (ρ : List Addr) (H : Hp)
def Out (p : Addr) : Prop := p ∉ ρ ∧ ¬ C.xi p
def RT (p : Addr) (vs : List V) : Prop := (Out C ρ p ∧ Rd H p (.tup vs)) ∨ KT C.K p vs
mutual
def Rep : W → V → Prop
  | .non, v => v = .non
  | .bl b, v => v = .bl b
  | .int i, v => v = .int i
  | .str l, v => v = .str (strOf l) ∧ okS l
  | .tup xs, v => ∃ p vs, v = .ref p ∧ RT C ρ H p vs ∧ Reps xs vs
  | .lst xs, v => ∃ p vs, v = .ref p ∧ Out C ρ p ∧ H p = some (.lst vs) ∧ Reps xs vs
  | .dct ks ws, v => ∃ p kvs, v = .ref p ∧ Out C ρ p ∧ H p = some (.dK kvs) ∧ kvs.map (·.1) = ks.map (fun l => Sum.inr (strOf l)) ∧ Reps ws (kvs.map (·.2))
  | .ref n, v => ∃ p, ρ[n]? = some p ∧ v = .ref p
  | .scr ns, v => ∃ p, v = .ref p ∧ ((Out C ρ p ∧ Rd H p (.lst (ns.map V.int))) ∨ KL C.K p (ns.map V.int))
  | .ty s, v => v = .ty s
  | .fn n, v => ∃ f, C.fa n = some f ∧ v = .ref f
def Reps : List W → List V → Prop
  | [], [] => True
  | x :: xs, v :: vs => Rep x v ∧ Reps xs vs
  | _, _ => False
end
/-- the store: each of its lists stands at its own address -/
structure SR (s : ST) : Prop where
  xl : ∀ p, C.xi p → p ∉ ρ ∧ ∃ vs, H p = some (.lst vs)
  tb : LamX.Tabs C.T H
  len : ρ.length = s.length
  nd : ρ.Nodup
  at_ : ∀ (n : Nat) (xs : List W), s[n]? = some xs → ∃ p vs, ρ[n]? = some p ∧ H p = some (.lst vs) ∧ Reps C ρ H xs vs
end

/-- nothing stands there, or a table -/
def Fre (H : Hp) (p : Addr) : Prop := ∀ o, H p = some o → ∃ ps, o = .tbl ps
theorem Fre.of {H : Hp} {p : Addr} (h : H p = none) : Fre H p := fun o e => by rw [h] at e; cases e
theorem Fre.no {H : Hp} {p : Addr} {o : HO} (f : Fre H p) (h : H p = some o) (hn : ∀ ps, o ≠ .tbl ps) : False := by
  obtain ⟨ps, e⟩ := f o h
  exact hn ps e
theorem tabs_new {T : List (Addr × Str)} {H : Hp} {p : Addr} {o : HO} (t : LamX.Tabs T H) (hn : H p = none) : LamX.Tabs T (upd H p o) := t.ext fun b u e => by rw [upd_ne (ne_of_none e hn)]; exact e
theorem tabs_wr {T : List (Addr × Str)} {H : Hp} {p : Addr} {vs xs : List V} (t : LamX.Tabs T H) (hp : H p = some (.lst vs)) : LamX.Tabs T (upd H p (.lst xs)) := fun q hq => by
  obtain ⟨ps, h1, h2, h3⟩ := t q hq
  refine ⟨ps, ?_, h2, fun pos cv hc => ?_⟩
  · rw [upd_ne (fun e => by rw [e, hp] at h1; cases h1)]; exact h1
  · obtain ⟨c, e1, e2⟩ := h3 pos cv hc
    refine ⟨c, e1, ?_⟩
    rw [upd_ne (fun e => by rw [e, hp] at e2; unfold LamX.CodeO at e2; cases e2)]; exact e2
/-- the heap has grown: lists of the store may have changed, all else stands (tables may grow) -/
structure Gr (ρ : List Addr) (H : Hp) (ρ' : List Addr) (H' : Hp) : Prop where
  pre : ∃ more, ρ' = ρ ++ more ∧ ∀ p ∈ more, Fre H p
  keep : ∀ p o, p ∉ ρ → H p = some o → (∀ ps, o ≠ .tbl ps) → H' p = some o
  live : ∀ p, Fre H' p → Fre H p

section
variable {C : Cn} {ρ ρ' ρ'' : List Addr} {H H' H'' : Hp}
theorem Gr.refl : Gr ρ H ρ H := ⟨⟨[], by simp, fun _ h => nomatch h⟩, fun _ _ _ h _ => h, fun _ h => h⟩
theorem Gr.trans (a : Gr ρ H ρ' H') (b : Gr ρ' H' ρ'' H'') : Gr ρ H ρ'' H'' := by
  obtain ⟨⟨m1, e1, f1⟩, k1, l1⟩ := a
  obtain ⟨⟨m2, e2, f2⟩, k2, l2⟩ := b
  refine ⟨⟨m1 ++ m2, by rw [e2, e1, List.append_assoc], fun p hp => ?_⟩, fun p o hp ho hn => ?_, fun p h => l1 p (l2 p h)⟩
  · rcases List.mem_append.mp hp with h | h
    · exact f1 p h
    · exact l1 p (f2 p h)
  · refine k2 p o (fun hm => ?_) (k1 p o hp ho hn) hn
    rw [e1] at hm
    rcases List.mem_append.mp hm with h | h
    · exact hp h
    · exact (f1 p h).no ho hn
theorem Gr.out (g : Gr ρ H ρ' H') {p : Addr} {o : HO} (hp : p ∉ ρ) (ho : H p = some o) (hn : ∀ ps, o ≠ .tbl ps := by intro ps q; cases q) : p ∉ ρ' := fun hm => by
  obtain ⟨m, e, f⟩ := g.pre
  rw [e] at hm
  rcases List.mem_append.mp hm with h | h
  · exact hp h
  · exact (f p h).no ho hn
theorem Gr.get (g : Gr ρ H ρ' H') {n : Nat} {p : Addr} (h : ρ[n]? = some p) : ρ'[n]? = some p := by
  obtain ⟨m, e, f⟩ := g.pre
  rw [e, List.getElem?_append_left (List.getElem?_eq_some_iff.mp h).1]
  exact h
theorem Gr.out' (g : Gr ρ H ρ' H') {p : Addr} {o : HO} (hp : Out C ρ p) (ho : H p = some o) (hn : ∀ ps, o ≠ .tbl ps := by intro ps q; cases q) : Out C ρ' p := ⟨g.out hp.1 ho hn, hp.2⟩
theorem Rd.out {p : Addr} {u : HO} (g : Gr ρ H ρ' H') (hp : Out C ρ p) (h : Rd H p u) (hu : ∀ ps, u ≠ .tbl ps) : Out C ρ' p ∧ Rd H' p u := by
  rcases h with h | ⟨o, h⟩
  · exact ⟨g.out' hp h hu, .inl (g.keep p _ hp.1 h hu)⟩
  · exact ⟨g.out' hp h, .inr ⟨o, g.keep p _ hp.1 h (fun _ q => by cases q)⟩⟩
theorem RT.mono {p : Addr} {vs : List V} (g : Gr ρ H ρ' H') (h : RT C ρ H p vs) : RT C ρ' H' p vs := by
  rcases h with ⟨h1, h2⟩ | h
  · exact .inl (Rd.out g h1 h2 (fun _ q => by cases q))
  · exact .inr h
mutual
theorem Rep.mono (g : Gr ρ H ρ' H') : ∀ (w : W) (v : V), Rep C ρ H w v → Rep C ρ' H' w v
  | .non, v, h => by simpa only [Rep] using h
  | .bl b, v, h => by simpa only [Rep] using h
  | .int i, v, h => by simpa only [Rep] using h
  | .str l, v, h => by simpa only [Rep] using h
  | .tup xs, v, h => by
    simp only [Rep] at h ⊢
    obtain ⟨p, vs, e, r, q⟩ := h
    exact ⟨p, vs, e, r.mono g, Reps.mono g xs vs q⟩
  | .lst xs, v, h => by
    simp only [Rep] at h ⊢
    obtain ⟨p, vs, e, n, r, q⟩ := h
    exact ⟨p, vs, e, g.out' n r, g.keep p _ n.1 r (fun _ q => by cases q), Reps.mono g xs vs q⟩
  | .dct ks ws, v, h => by
    simp only [Rep] at h ⊢
    obtain ⟨p, kvs, e, n, r, hk, q⟩ := h
    exact ⟨p, kvs, e, g.out' n r, g.keep p _ n.1 r (fun _ q => by cases q), hk, Reps.mono g ws _ q⟩
  | .ref n, v, h => by
    simp only [Rep] at h ⊢
    obtain ⟨p, e, q⟩ := h
    exact ⟨p, g.get e, q⟩
  | .scr ns, v, h => by
    simp only [Rep] at h ⊢
    obtain ⟨p, e, ⟨n, r⟩ | r⟩ := h
    · exact ⟨p, e, .inl (Rd.out g n r (fun _ q => by cases q))⟩
    · exact ⟨p, e, .inr r⟩
  | .ty s, v, h => by simpa only [Rep] using h
  | .fn n, v, h => by simpa only [Rep] using h
theorem Reps.mono (g : Gr ρ H ρ' H') : ∀ (ws : List W) (vs : List V), Reps C ρ H ws vs → Reps C ρ' H' ws vs
  | [], [], _ => by simp only [Reps]
  | [], _ :: _, h => by simp only [Reps] at h
  | _ :: _, [], h => by simp only [Reps] at h
  | x :: xs, v :: vs, h => by
    simp only [Reps] at h ⊢
    exact ⟨Rep.mono g x v h.1, Reps.mono g xs vs h.2⟩
end
theorem Reps.length : ∀ {ws : List W} {vs : List V}, Reps C ρ H ws vs → ws.length = vs.length
  | [], [], _ => rfl
  | [], _ :: _, h => by simp only [Reps] at h
  | _ :: _, [], h => by simp only [Reps] at h
  | x :: xs, v :: vs, h => by
    simp only [Reps] at h
    simp [Reps.length h.2]
theorem Reps.get : ∀ {ws : List W} {vs : List V} {i : Nat} {w : W}, Reps C ρ H ws vs → ws[i]? = some w → ∃ v, vs[i]? = some v ∧ Rep C ρ H w v
  | [], _, _, _, _, e => by simp at e
  | _ :: _, [], _, _, h, _ => by simp only [Reps] at h
  | x :: xs, v :: vs, 0, w, h, e => by
    simp only [Reps] at h
    simp at e; subst e
    exact ⟨v, rfl, h.1⟩
  | x :: xs, v :: vs, i + 1, w, h, e => by
    simp only [Reps] at h
    obtain ⟨u, e1, r⟩ := Reps.get (i := i) h.2 (by simpa using e)
    exact ⟨u, by simpa using e1, r⟩
theorem Reps.app : ∀ {ws us : List W} {vs xs : List V}, Reps C ρ H ws vs → Reps C ρ H us xs → Reps C ρ H (ws ++ us) (vs ++ xs)
  | [], _, [], _, _, h => h
  | [], _, _ :: _, _, h, _ => by simp only [Reps] at h
  | _ :: _, _, [], _, h, _ => by simp only [Reps] at h
  | x :: xs, us, v :: vs, ys, h, q => by
    simp only [Reps, List.cons_append] at h ⊢
    exact ⟨h.1, Reps.app h.2 q⟩
theorem Reps.take : ∀ {ws : List W} {vs : List V} (n : Nat), Reps C ρ H ws vs → Reps C ρ H (ws.take n) (vs.take n)
  | _, _, 0, _ => by simp only [List.take_zero, Reps]
  | [], [], _ + 1, _ => by simp only [List.take_nil, Reps]
  | [], _ :: _, _, h => by simp only [Reps] at h
  | _ :: _, [], _, h => by simp only [Reps] at h
  | x :: xs, v :: vs, n + 1, h => by
    simp only [Reps, List.take_succ_cons] at h ⊢
    exact ⟨h.1, Reps.take n h.2⟩
theorem Reps.drop : ∀ {ws : List W} {vs : List V} (n : Nat), Reps C ρ H ws vs → Reps C ρ H (ws.drop n) (vs.drop n)
  | _, _, 0, h => h
  | [], [], _ + 1, h => h
  | [], _ :: _, _, h => by simp only [Reps] at h
  | _ :: _, [], _, h => by simp only [Reps] at h
  | x :: xs, v :: vs, n + 1, h => by
    simp only [Reps, List.drop_succ_cons] at h ⊢
    exact Reps.drop n h.2
theorem Reps.set : ∀ {ws : List W} {vs : List V} (i : Nat) {w : W} {v : V}, Reps C ρ H ws vs → Rep C ρ H w v → Reps C ρ H (ws.set i w) (vs.set i v)
  | [], [], _, _, _, h, _ => h
  | [], _ :: _, _, _, _, h, _ => by simp only [Reps] at h
  | _ :: _, [], _, _, _, h, _ => by simp only [Reps] at h
  | x :: xs, v :: vs, 0, _, _, h, q => by
    simp only [Reps, List.set_cons_zero] at h ⊢
    exact ⟨q, h.2⟩
  | x :: xs, v :: vs, i + 1, _, _, h, q => by
    simp only [Reps, List.set_cons_succ] at h ⊢
    exact ⟨h.1, Reps.set i h.2 q⟩
theorem Reps.erase : ∀ {ws : List W} {vs : List V} (i : Nat), Reps C ρ H ws vs → Reps C ρ H (ws.eraseIdx i) (vs.eraseIdx i)
  | [], [], _, h => h
  | [], _ :: _, _, h => by simp only [Reps] at h
  | _ :: _, [], _, h => by simp only [Reps] at h
  | x :: xs, v :: vs, 0, h => by
    simp only [Reps, List.eraseIdx_cons_zero] at h ⊢
    exact h.2
  | x :: xs, v :: vs, i + 1, h => by
    simp only [Reps, List.eraseIdx_cons_succ] at h ⊢
    exact ⟨h.1, Reps.erase i h.2⟩
theorem Reps.rev : ∀ {ws : List W} {vs : List V}, Reps C ρ H ws vs → Reps C ρ H ws.reverse vs.reverse
  | [], [], h => h
  | [], _ :: _, h => by simp only [Reps] at h
  | _ :: _, [], h => by simp only [Reps] at h
  | x :: xs, v :: vs, h => by
    simp only [Reps, List.reverse_cons] at h ⊢
    exact Reps.app (Reps.rev h.2) (by simp only [Reps]; exact ⟨h.1, trivial⟩)
theorem Reps.one {w : W} {v : V} (h : Rep C ρ H w v) : Reps C ρ H [w] [v] := by simp only [Reps]; exact ⟨h, trivial⟩
theorem Reps.nil' {vs : List V} (h : Reps C ρ H [] vs) : vs = [] := by
  cases vs with
  | nil => rfl
  | cons _ _ => simp only [Reps] at h
theorem Reps.cons' {x : W} {xs : List W} {vs : List V} (h : Reps C ρ H (x :: xs) vs) : ∃ v us, vs = v :: us ∧ Rep C ρ H x v ∧ Reps C ρ H xs us := by
  cases vs with
  | nil => simp only [Reps] at h
  | cons v us => simp only [Reps] at h; exact ⟨v, us, rfl, h.1, h.2⟩
theorem Reps.mk {x : W} {xs : List W} {v : V} {vs : List V} (h : Rep C ρ H x v) (t : Reps C ρ H xs vs) : Reps C ρ H (x :: xs) (v :: vs) := by simp only [Reps]; exact ⟨h, t⟩

/-- the store where its lists stand as they stood -/
theorem SR.mono {s : ST} (S : SR C ρ H s) (g : Gr ρ H ρ H') (h : ∀ p ∈ ρ, H' p = H p) (tb : LamX.Tabs C.T H') : SR C ρ H' s where
  xl := fun p hp => by
    obtain ⟨h1, vs, h2⟩ := S.xl p hp
    exact ⟨h1, vs, g.keep p _ h1 h2 (fun _ q => by cases q)⟩
  tb := tb
  len := S.len
  nd := S.nd
  at_ := fun n xs e => by
    obtain ⟨p, vs, e1, e2, r⟩ := S.at_ n xs e
    exact ⟨p, vs, e1, (h p (List.mem_of_getElem? e1)).trans e2, Reps.mono g xs vs r⟩
theorem SR.some {s : ST} (S : SR C ρ H s) {p : Addr} (hp : p ∈ ρ) : ∃ vs, H p = some (.lst vs) := by
  obtain ⟨n, hn⟩ := List.mem_iff_getElem?.mp hp
  have hl : n < s.length := by rw [← S.len]; exact (List.getElem?_eq_some_iff.mp hn).1
  obtain ⟨q, vs, e1, e2, _⟩ := S.at_ n s[n] (List.getElem?_eq_getElem hl)
  rw [hn] at e1; cases e1
  exact ⟨vs, e2⟩
/-- a new object -/
theorem Gr.new {p : Addr} {o : HO} (hn : H p = none) : Gr ρ H ρ (upd H p o) := by
  refine ⟨⟨[], by simp, fun _ h => nomatch h⟩, fun q u _ h _ => ?_, fun q h => ?_⟩
  · rw [upd_ne (ne_of_none h hn)]; exact h
  · by_cases e : q = p
    · subst e; exact Fre.of hn
    · exact fun u hu => h u (by rw [upd_ne e]; exact hu)
theorem SR.new {s : ST} {p : Addr} {o : HO} (S : SR C ρ H s) (hn : H p = none) : SR C ρ (upd H p o) s :=
  S.mono (Gr.new hn) (fun q hq => by
    obtain ⟨vs, e⟩ := S.some hq
    exact upd_ne (ne_of_none e hn)) (tabs_new S.tb hn)
theorem SR.fresh {s : ST} {p : Addr} (S : SR C ρ H s) (hn : H p = none) : p ∉ ρ := fun hp => by
  obtain ⟨vs, e⟩ := S.some hp
  rw [hn] at e; cases e
theorem SR.fresh' {s : ST} {p : Addr} (S : SR C ρ H s) (hn : H p = none) : Out C ρ p := ⟨S.fresh hn, fun hx => by
  obtain ⟨_, vs, e⟩ := S.xl p hx
  rw [hn] at e; cases e⟩
theorem Rep.newT {s : ST} {p : Addr} {ws : List W} {vs : List V} (S : SR C ρ H s) (hn : H p = none) (r : Reps C ρ H ws vs) : Rep C ρ (upd H p (.tup vs)) (.tup ws) (.ref p) := by
  simp only [Rep]
  exact ⟨p, vs, rfl, .inl ⟨S.fresh' hn, .inl upd_same⟩, Reps.mono (Gr.new hn) ws vs r⟩
theorem Rep.newL {s : ST} {p : Addr} {ws : List W} {vs : List V} (S : SR C ρ H s) (hn : H p = none) (r : Reps C ρ H ws vs) : Rep C ρ (upd H p (.lst vs)) (.lst ws) (.ref p) := by
  simp only [Rep]
  exact ⟨p, vs, rfl, S.fresh' hn, upd_same, Reps.mono (Gr.new hn) ws vs r⟩

/-- what is wanted of a value -/
def OkP (C : Cn) (ρ : List Addr) (H : Hp) (s : ST) (w : W) (Q : VK) : Prop := ∀ ρ' H' v, Gr ρ H ρ' H' → SR C ρ' H' s → Rep C ρ' H' w v → Q v H'
theorem OkP.here {s : ST} {w : W} {v : V} {Q : VK} (k : OkP C ρ H s w Q) (S : SR C ρ H s) (r : Rep C ρ H w v) : Q v H := k ρ H v Gr.refl S r
theorem OkP.tup {s : ST} {ws : List W} {vs : List V} {Q : VK} (k : OkP C ρ H s (.tup ws) Q) (S : SR C ρ H s) (r : Reps C ρ H ws vs) : ∀ p, H p = none → Q (.ref p) (upd H p (.tup vs)) :=
  fun p hn => k ρ _ _ (Gr.new hn) (S.new hn) (Rep.newT S hn r)
theorem OkP.lst {s : ST} {ws : List W} {vs : List V} {Q : VK} (k : OkP C ρ H s (.lst ws) Q) (S : SR C ρ H s) (r : Reps C ρ H ws vs) : ∀ p, H p = none → Q (.ref p) (upd H p (.lst vs)) :=
  fun p hn => k ρ _ _ (Gr.new hn) (S.new hn) (Rep.newL S hn r)
theorem OkP.mono {s : ST} {w : W} {Q : VK} (k : OkP C ρ H s w Q) (g : Gr ρ H ρ' H') : OkP C ρ' H' s w Q := fun ρ2 H2 v g2 S r => k ρ2 H2 v (g.trans g2) S r

/-! ### an address hidden -/
section
variable {D : Addr}
theorem Out.hide {p : Addr} {o : HO} (hD : Fre H D) (h : Out C ρ p) (e : H p = some o) (hn : ∀ ps, o ≠ .tbl ps := by intro ps q; cases q) : Out (C.hide D) ρ p := ⟨h.1, fun q => q.elim h.2 (fun q => by subst q; exact hD.no e hn)⟩
theorem Out.show {p : Addr} (h : Out (C.hide D) ρ p) : Out C ρ p := ⟨h.1, fun q => h.2 (.inl q)⟩
theorem Rd.get {p : Addr} {u : HO} (h : Rd H p u) (hu : ∀ ps, u ≠ .tbl ps := by intro ps q; cases q) : ∃ o, H p = some o ∧ ∀ ps, o ≠ .tbl ps := by
  rcases h with h | ⟨o, h⟩
  · exact ⟨_, h, hu⟩
  · exact ⟨_, h, fun _ q => by cases q⟩
mutual
theorem Rep.hide (hD : Fre H D) : ∀ (w : W) (v : V), Rep C ρ H w v → Rep (C.hide D) ρ H w v
  | .non, v, h => by simpa only [Rep] using h
  | .bl b, v, h => by simpa only [Rep] using h
  | .int i, v, h => by simpa only [Rep] using h
  | .str l, v, h => by simpa only [Rep] using h
  | .tup xs, v, h => by
    simp only [Rep] at h ⊢
    obtain ⟨p, vs, e, r, q⟩ := h
    refine ⟨p, vs, e, ?_, Reps.hide hD xs vs q⟩
    rcases r with ⟨o, r⟩ | r
    · obtain ⟨u, hu, hn⟩ := Rd.get r
      exact .inl ⟨o.hide hD hu hn, r⟩
    · exact .inr r
  | .lst xs, v, h => by
    simp only [Rep] at h ⊢
    obtain ⟨p, vs, e, n, r, q⟩ := h
    exact ⟨p, vs, e, n.hide hD r, r, Reps.hide hD xs vs q⟩
  | .dct ks ws, v, h => by
    simp only [Rep] at h ⊢
    obtain ⟨p, kvs, e, n, r, hk, q⟩ := h
    exact ⟨p, kvs, e, n.hide hD r, r, hk, Reps.hide hD ws _ q⟩
  | .ref n, v, h => by simpa only [Rep] using h
  | .scr ns, v, h => by
    simp only [Rep] at h ⊢
    obtain ⟨p, e, ⟨n, r⟩ | r⟩ := h
    · obtain ⟨u, hu, hn⟩ := Rd.get r
      exact ⟨p, e, .inl ⟨n.hide hD hu hn, r⟩⟩
    · exact ⟨p, e, .inr r⟩
  | .ty s, v, h => by simpa only [Rep] using h
  | .fn n, v, h => by simpa only [Rep, Cn.hide] using h
theorem Reps.hide (hD : Fre H D) : ∀ (ws : List W) (vs : List V), Reps C ρ H ws vs → Reps (C.hide D) ρ H ws vs
  | [], [], _ => by simp only [Reps]
  | [], _ :: _, h => by simp only [Reps] at h
  | _ :: _, [], h => by simp only [Reps] at h
  | x :: xs, v :: vs, h => by
    simp only [Reps] at h ⊢
    exact ⟨Rep.hide hD x v h.1, Reps.hide hD xs vs h.2⟩
end
mutual
theorem Rep.show : ∀ (w : W) (v : V), Rep (C.hide D) ρ H w v → Rep C ρ H w v
  | .non, v, h => by simpa only [Rep] using h
  | .bl b, v, h => by simpa only [Rep] using h
  | .int i, v, h => by simpa only [Rep] using h
  | .str l, v, h => by simpa only [Rep] using h
  | .tup xs, v, h => by
    simp only [Rep] at h ⊢
    obtain ⟨p, vs, e, r, q⟩ := h
    refine ⟨p, vs, e, ?_, Reps.show xs vs q⟩
    rcases r with ⟨o, r⟩ | r
    · exact .inl ⟨o.show, r⟩
    · exact .inr r
  | .lst xs, v, h => by
    simp only [Rep] at h ⊢
    obtain ⟨p, vs, e, n, r, q⟩ := h
    exact ⟨p, vs, e, n.show, r, Reps.show xs vs q⟩
  | .dct ks ws, v, h => by
    simp only [Rep] at h ⊢
    obtain ⟨p, kvs, e, n, r, hk, q⟩ := h
    exact ⟨p, kvs, e, n.show, r, hk, Reps.show ws _ q⟩
  | .ref n, v, h => by simpa only [Rep] using h
  | .scr ns, v, h => by
    simp only [Rep] at h ⊢
    obtain ⟨p, e, ⟨n, r⟩ | r⟩ := h
    · exact ⟨p, e, .inl ⟨n.show, r⟩⟩
    · exact ⟨p, e, .inr r⟩
  | .ty s, v, h => by simpa only [Rep] using h
  | .fn n, v, h => by simpa only [Rep, Cn.hide] using h
theorem Reps.show : ∀ (ws : List W) (vs : List V), Reps (C.hide D) ρ H ws vs → Reps C ρ H ws vs
  | [], [], _ => by simp only [Reps]
  | [], _ :: _, h => by simp only [Reps] at h
  | _ :: _, [], h => by simp only [Reps] at h
  | x :: xs, v :: vs, h => by
    simp only [Reps] at h ⊢
    exact ⟨Rep.show x v h.1, Reps.show xs vs h.2⟩
end
/-! what stands at the hidden address is changed -/
mutual
theorem Rep.other (o : HO) : ∀ (w : W) (v : V), Rep (C.hide D) ρ H w v → Rep (C.hide D) ρ (upd H D o) w v
  | .non, v, h => by simpa only [Rep] using h
  | .bl b, v, h => by simpa only [Rep] using h
  | .int i, v, h => by simpa only [Rep] using h
  | .str l, v, h => by simpa only [Rep] using h
  | .tup xs, v, h => by
    simp only [Rep] at h ⊢
    obtain ⟨p, vs, e, r, q⟩ := h
    refine ⟨p, vs, e, ?_, Reps.other o xs vs q⟩
    rcases r with ⟨n, r⟩ | r
    · have hp : p ≠ D := fun q => n.2 (.inr q)
      refine .inl ⟨n, ?_⟩
      rcases r with r | ⟨u, r⟩
      · exact .inl (by rw [upd_ne hp]; exact r)
      · exact .inr ⟨u, by rw [upd_ne hp]; exact r⟩
    · exact .inr r
  | .lst xs, v, h => by
    simp only [Rep] at h ⊢
    obtain ⟨p, vs, e, n, r, q⟩ := h
    exact ⟨p, vs, e, n, by rw [upd_ne (fun q => n.2 (.inr q))]; exact r, Reps.other o xs vs q⟩
  | .dct ks ws, v, h => by
    simp only [Rep] at h ⊢
    obtain ⟨p, kvs, e, n, r, hk, q⟩ := h
    exact ⟨p, kvs, e, n, by rw [upd_ne (fun q => n.2 (.inr q))]; exact r, hk, Reps.other o ws _ q⟩
  | .ref n, v, h => by simpa only [Rep] using h
  | .scr ns, v, h => by
    simp only [Rep] at h ⊢
    obtain ⟨p, e, ⟨n, r⟩ | r⟩ := h
    · have hp : p ≠ D := fun q => n.2 (.inr q)
      refine ⟨p, e, .inl ⟨n, ?_⟩⟩
      rcases r with r | ⟨u, r⟩
      · exact .inl (by rw [upd_ne hp]; exact r)
      · exact .inr ⟨u, by rw [upd_ne hp]; exact r⟩
    · exact ⟨p, e, .inr r⟩
  | .ty s, v, h => by simpa only [Rep] using h
  | .fn n, v, h => by simpa only [Rep] using h
theorem Reps.other (o : HO) : ∀ (ws : List W) (vs : List V), Reps (C.hide D) ρ H ws vs → Reps (C.hide D) ρ (upd H D o) ws vs
  | [], [], _ => by simp only [Reps]
  | [], _ :: _, h => by simp only [Reps] at h
  | _ :: _, [], h => by simp only [Reps] at h
  | x :: xs, v :: vs, h => by
    simp only [Reps] at h ⊢
    exact ⟨Rep.other o x v h.1, Reps.other o xs vs h.2⟩
end
theorem SR.hide {s : ST} {zs : List V} (S : SR C ρ H s) (hD : H D = none) : SR (C.hide D) ρ (upd H D (.lst zs)) s := by
  have hf := S.fresh hD
  refine ⟨fun p hp => ?_, tabs_new S.tb hD, S.len, S.nd, fun n xs e => ?_⟩
  · rcases hp with hp | rfl
    · obtain ⟨h1, vs, h2⟩ := S.xl p hp
      exact ⟨h1, vs, by rw [upd_ne (ne_of_none h2 hD)]; exact h2⟩
    · exact ⟨hf, zs, upd_same⟩
  · obtain ⟨p, vs, e1, e2, r⟩ := S.at_ n xs e
    have hp : p ≠ D := fun q => hf (q ▸ List.mem_of_getElem? e1)
    exact ⟨p, vs, e1, by rw [upd_ne hp]; exact e2, Reps.other _ _ _ (Reps.hide (Fre.of hD) _ _ r)⟩
theorem SR.other {s : ST} (S : SR (C.hide D) ρ H s) (zs : List V) : SR (C.hide D) ρ (upd H D (.lst zs)) s := by
  obtain ⟨hf, vs0, hv0⟩ := S.xl D (.inr rfl)
  refine ⟨fun p hp => ?_, tabs_wr S.tb hv0, S.len, S.nd, fun n xs e => ?_⟩
  · obtain ⟨h1, vs, h2⟩ := S.xl p hp
    by_cases e : p = D
    · subst e; exact ⟨h1, zs, upd_same⟩
    · exact ⟨h1, vs, by rw [upd_ne e]; exact h2⟩
  · obtain ⟨p, vs, e1, e2, r⟩ := S.at_ n xs e
    have hp : p ≠ D := fun q => hf (q ▸ List.mem_of_getElem? e1)
    exact ⟨p, vs, e1, by rw [upd_ne hp]; exact e2, Reps.other _ _ _ r⟩
theorem SR.show {s : ST} (S : SR (C.hide D) ρ H s) : SR C ρ H s :=
  ⟨fun p hp => S.xl p (.inl hp), S.tb, S.len, S.nd, fun n xs e => by
    obtain ⟨p, vs, e1, e2, r⟩ := S.at_ n xs e
    exact ⟨p, vs, e1, e2, Reps.show _ _ r⟩⟩
/-- seen from where the hidden address was free -/
theorem Gr.past (g : Gr ρ H ρ' H') (hD : H D = none) (hD' : D ∉ ρ') (o : HO) : Gr ρ H ρ' (upd H' D o) := by
  refine ⟨g.pre, fun p u hp e hn => ?_, fun p e => ?_⟩
  · rw [upd_ne (ne_of_none e hD)]; exact g.keep p u hp e hn
  · by_cases q : p = D
    · subst q; exact Fre.of hD
    · exact g.live p fun u hu => e u (by rw [upd_ne q]; exact hu)
end

/-! ### reading the forms -/
theorem Rep.int {i : Int} {v : V} (h : Rep C ρ H (.int i) v) : v = .int i := by simpa only [Rep] using h
theorem Rep.bl {b : Bool} {v : V} (h : Rep C ρ H (.bl b) v) : v = .bl b := by simpa only [Rep] using h
theorem Rep.non {v : V} (h : Rep C ρ H .non v) : v = .non := by simpa only [Rep] using h
theorem Rep.str {l : List Nat} {v : V} (h : Rep C ρ H (.str l) v) : v = .str (strOf l) ∧ okS l := by simpa only [Rep] using h
theorem Rep.mkI {i : Int} : Rep C ρ H (.int i) (.int i) := by simp only [Rep]
theorem Rep.mkB {b : Bool} : Rep C ρ H (.bl b) (.bl b) := by simp only [Rep]
theorem Rep.mkN : Rep C ρ H .non .non := by simp only [Rep]
theorem Rep.mkS {l : List Nat} (h : okS l) : Rep C ρ H (.str l) (.str (strOf l)) := by unfold Rep; exact ⟨rfl, h⟩
theorem RT.sq {p : Addr} {vs : List V} (h : RT C ρ H p vs) : SqT C.K H p vs := by
  rcases h with ⟨_, h⟩ | h
  · exact .inl h
  · exact .inr h
theorem Rep.tup {xs : List W} {v : V} (h : Rep C ρ H (.tup xs) v) : ∃ p vs, v = .ref p ∧ RT C ρ H p vs ∧ Reps C ρ H xs vs := by simpa only [Rep] using h
theorem seqL_rep {s : ST} {a : W} {v : V} {xs : List W} (S : SR C ρ H s) (r : Rep C ρ H a v) (h : seqL s a = some xs) : ∃ p vs, v = .ref p ∧ H p = some (.lst vs) ∧ Reps C ρ H xs vs := by
  cases a with
  | lst ys =>
    simp only [seqL, Option.some.injEq] at h; subst h
    simp only [Rep] at r
    obtain ⟨p, vs, e, _, e2, q⟩ := r
    exact ⟨p, vs, e, e2, q⟩
  | ref n =>
    simp only [seqL] at h
    simp only [Rep] at r
    obtain ⟨p, e, rfl⟩ := r
    obtain ⟨q, vs, e1, e2, r⟩ := S.at_ n xs h
    rw [e] at e1; cases e1
    exact ⟨p, vs, rfl, e2, r⟩
  | _ => simp [seqL] at h
theorem seqI_rep {s : ST} {a : W} {v : V} {xs : List W} (S : SR C ρ H s) (r : Rep C ρ H a v) (h : seqI s a = some xs) : ∃ p vs, v = .ref p ∧ (SqL C.K H p vs ∨ SqT C.K H p vs) ∧ Reps C ρ H xs vs := by
  cases a with
  | lst ys =>
    obtain ⟨p, vs, e, e2, q⟩ := seqL_rep (xs := xs) S r h
    exact ⟨p, vs, e, .inl (SqL.of e2), q⟩
  | ref n =>
    obtain ⟨p, vs, e, e2, q⟩ := seqL_rep (xs := xs) S r h
    exact ⟨p, vs, e, .inl (SqL.of e2), q⟩
  | tup ys =>
    simp only [seqI, Option.some.injEq] at h; subst h
    obtain ⟨p, vs, e, q, r⟩ := Rep.tup r
    exact ⟨p, vs, e, .inr q.sq, r⟩
  | _ => simp [seqI] at h
end
end G

set_option Elab.async false
set_option linter.all false
set_option autoImplicit false
set_option maxRecDepth 100000
set_option maxHeartbeats 2000000
/-! G3: the operators. -/
namespace G
open PySem L2
section
variable {X : Cx} {C : Cn}
theorem strOf_len (l : List Nat) : (strOf l).length = l.length := by show l.toArray.size = l.length; simp
theorem strOf_app (x y : List Nat) : strOf x ++ strOf y = strOf (x ++ y) := by
  show Str.append _ _ = _
  simp [Str.append, strOf]
theorem okS_app {x y : List Nat} (a : okS x) (b : okS y) : okS (x ++ y) := fun c h => (List.mem_append.mp h).elim (a c) (b c)
theorem line_eq : line = sizeLine := by rw [sizeLine_eq]; rfl
theorem rep_flat {α : Type} (n : Nat) (xs : List α) : rep n xs = (List.replicate n xs).flatten := by
  induction n with
  | zero => rfl
  | succ n ih => simp [rep, ih, List.replicate_succ]
theorem Reps.rep {ρ : List Addr} {H : Hp} {ws : List W} {vs : List V} (r : Reps C ρ H ws vs) : ∀ n, Reps C ρ H (rep n ws) (List.replicate n vs).flatten
  | 0 => by simp only [G.rep, List.replicate_zero, List.flatten_nil, Reps]
  | n + 1 => by
    simp only [G.rep, List.replicate_succ, List.flatten_cons]
    exact Reps.app r (Reps.rep r n)
theorem okS_rep {l : List Nat} (h : okS l) : ∀ n, okS (rep n l)
  | 0 => fun _ q => nomatch q
  | n + 1 => okS_app h (okS_rep h n)
theorem rep_len {α : Type} (l : List α) : ∀ n, (rep n l).length = n * l.length
  | 0 => by simp [rep]
  | n + 1 => by rw [rep, List.length_append, rep_len l n, Nat.succ_mul, Nat.add_comm]
theorem size_repA {α : Type} (its : List α) : ∀ (m : Nat) (acc : List α), (List.foldl (fun x1 x2 => x1 ++ x2) acc.toArray (List.replicate m its.toArray)) = (acc ++ (List.replicate m its).flatten).toArray
  | 0, acc => by simp
  | m + 1, acc => by
    rw [List.replicate_succ, List.foldl_cons]
    have e : acc.toArray ++ its.toArray = (acc ++ its).toArray := by simp
    rw [e, size_repA its m (acc ++ its)]
    simp [List.replicate_succ, List.append_assoc]
/-- two values' operator -/
def rOp (C : Cn) (g : W → W → ST → Option W) : R2 := fun x y H Q => ∃ ρ s a b w, SR C ρ H s ∧ Rep C ρ H a x ∧ Rep C ρ H b y ∧ g a b s = some w ∧ OkP C ρ H s w Q
def bopO : Bop → Operator
  | .add => .Add | .sub => .Sub | .mul => .Mult | .fdiv => .FloorDiv | .mod => .Mod | .pow => .Pow
theorem big_log {i j : Int} (h0 : 0 < j) (h : j < big) : CDivW i j := by
  refine wide_div (b := 64) h0 ?_ (by decide) (by decide)
  have : big = 2 ^ 64 := rfl
  omega
theorem op_bin (hX : X.K = C.K) (op : Bop) : OpR X (binaryOp (bopO op)) (rOp C (binop op)) := by
  intro pins st σ H x y v u Q I rx ry h
  obtain ⟨ρ, s, a, b, w, S, ra, rb, e, k⟩ := h
  unfold binop at e
  split at e
  · -- int + int
    cases e
    rw [ra.int] at rx; rw [rb.int] at ry
    exact op_add pins st σ H _ _ v u Q I rx ry ⟨_, _, rfl, rfl, k.here S Rep.mkI⟩
  · rename_i x' y'
    split at e
    · rename_i hl
      cases e
      obtain ⟨e1, o1⟩ := ra.str
      obtain ⟨e2, o2⟩ := rb.str
      rw [e1] at rx; rw [e2] at ry
      refine op_add_str pins st σ H _ _ v u Q I rx ry ⟨_, _, rfl, rfl, by rw [strOf_len, strOf_len, ← line_eq]; exact hl, ?_⟩
      rw [strOf_app]
      exact k.here S (Rep.mkS (okS_app o1 o2))
    · cases e
  · split at e
    · rename_i hl
      cases e
      obtain ⟨p, vs, rfl, q1, r1⟩ := ra.tup
      obtain ⟨p2, vs2, rfl, q2, r2⟩ := rb.tup
      refine op_catA pins st σ H _ _ v u Q I rx ry ⟨p, p2, vs, vs2, rfl, rfl, hX ▸ q1.sq, hX ▸ q2.sq, by rw [← r1.length, ← r2.length, ← line_eq]; exact hl, fun h0 => ?_, fun _ h0 => ?_, fun _ _ => k.tup S (r1.app r2)⟩
      · subst h0
        have e0 := r1.length
        rw [List.length_nil, List.length_eq_zero_iff] at e0
        subst e0
        exact k.here S rb
      · subst h0
        have e0 := r2.length
        rw [List.length_nil, List.length_eq_zero_iff] at e0
        subst e0
        refine k.here S ?_
        rw [List.append_nil]; exact ra
    · cases e
  · split at e
    · rename_i xs ys h1 h2
      split at e
      · rename_i hl
        cases e
        obtain ⟨p, vs, rfl, q1, r1⟩ := seqL_rep S ra h1
        obtain ⟨p2, vs2, rfl, q2, r2⟩ := seqL_rep S rb h2
        exact op_cat pins st σ H _ _ v u Q I rx ry ⟨p, p2, vs, vs2, rfl, rfl, q1, q2, by rw [← r1.length, ← r2.length, ← line_eq]; exact hl, k.lst S (r1.app r2)⟩
      · cases e
    · cases e
  · cases e
    rw [ra.int] at rx; rw [rb.int] at ry
    exact op_sub pins st σ H _ _ v u Q I rx ry ⟨_, _, rfl, rfl, k.here S Rep.mkI⟩
  · split at e
    · rename_i hc
      cases e
      rw [ra.int] at rx; rw [rb.int] at ry
      exact op_mul pins st σ H _ _ v u Q I rx ry ⟨_, _, rfl, rfl, hc, k.here S Rep.mkI⟩
    · cases e
  · split at e
    · rename_i hc
      cases e
      rw [ra.int] at rx; rw [rb.int] at ry
      exact op_fdivW pins st σ H _ _ v u Q I rx ry ⟨_, _, rfl, rfl, big_log hc.1 hc.2, k.here S Rep.mkI⟩
    · cases e
  · split at e
    · rename_i hc
      cases e
      rw [ra.int] at rx; rw [rb.int] at ry
      exact op_mod pins st σ H _ _ v u Q I rx ry ⟨_, _, rfl, rfl, hc, k.here S Rep.mkI⟩
    · cases e
  · split at e
    · rename_i hc
      cases e
      rw [ra.int] at rx; rw [rb.int] at ry
      refine op_pow pins st σ H _ _ v u Q I rx ry ⟨_, _, rfl, rfl, ⟨hc.1, hc.2.1, ?_⟩, k.here S Rep.mkI⟩
      have : big = 2 ^ 64 := rfl
      omega
    · cases e
  · split at e
    · rename_i xs n hc
      cases e
      obtain ⟨p, vs, rfl, q1, r1⟩ := ra.tup
      rw [rb.int] at ry
      refine op_repT pins st σ H _ _ v u Q I rx ry ⟨p, _, vs, rfl, rfl, hX ▸ q1.sq, fun h0 => ?_, hc.1, hc.2.1, by rw [← r1.length]; exact hc.2.2.2, k.tup S (r1.rep _)⟩
      have := r1.length
      rw [h0, List.length_nil] at this
      omega
    · cases e
  · split at e
    · rename_i xs n hc
      cases e
      simp only [Rep] at ra
      obtain ⟨p, vs, rfl, _, q1, r1⟩ := ra
      rw [rb.int] at ry
      exact op_rep pins st σ H _ _ v u Q I rx ry ⟨p, _, vs, rfl, rfl, q1, by omega, by omega, by rw [← r1.length, ← line_eq]; exact hc.2.2, k.lst S (r1.rep _)⟩
    · cases e
  · split at e
    · rename_i xs n hc
      cases e
      obtain ⟨e1, o1⟩ := ra.str
      rw [e1] at rx; rw [rb.int] at ry
      obtain ⟨t1, rfl⟩ := rx
      obtain ⟨t2, rfl⟩ := ry
      have fin : ∀ tk, EP X pins σ Q (.str (strOf (rep n.toNat xs)) tk) { st with toks := st.toks + 1 } := fun tk => ⟨.str _, H, I.tok _, ⟨_, rfl⟩, k.here S (Rep.mkS (okS_rep o1 _))⟩
      have fin0 : ∀ tk, EP X pins σ Q (.str (strOf (rep n.toNat xs)) tk) st := fun tk => ⟨.str _, H, I, ⟨_, rfl⟩, k.here S (Rep.mkS (okS_rep o1 _))⟩
      have hl : xs.length * n.toNat ≤ sizeLine := by rw [← line_eq]; exact hc.2.2
      refine PySem.P.mul_str ?_ ?_ ?_ ?_
      · rw [decide_eq_false (by omega), decide_eq_false (by omega)]; rfl
      · intro h1 _ hgt
        have h2 : 0 < n := by omega
        have h3 : ((2 : Int) ^ 63 - 1) / n * n ≤ 2 ^ 63 - 1 := Int.ediv_mul_le _ (by omega)
        rw [strOf_len] at hgt
        have h4 : (xs.length : Int) * n.toNat ≤ sizeLine := by exact_mod_cast hl
        have hs : (sizeLine : Int) = 16777216 := by rw [sizeLine_eq]; rfl
        have hn : (n.toNat : Int) = n := Int.toNat_of_nonneg (by omega)
        rw [hn, hs] at h4
        have h5 : ((2 : Int) ^ 63 - 1) / n + 1 ≤ xs.length := hgt
        have h6 : (((2 : Int) ^ 63 - 1) / n + 1) * n ≤ xs.length * n := Int.mul_le_mul_of_nonneg_right h5 (by omega)
        have h7 : (2 : Int) ^ 63 - 1 < (((2 : Int) ^ 63 - 1) / n + 1) * n := Int.lt_mul_of_ediv_lt h2 (by omega)
        omega
      · intro _ _
        rw [strOf_len]
        unfold Builtin.Str.tooLong
        exact decide_eq_false (by omega)
      · split
        · rename_i h1
          have h0 : n.toNat = 0 := by omega
          have f := fin st.toks
          rw [h0] at f
          exact ⟨by decide, f⟩
        · split
          · rename_i h1 h2
            have e : rep n.toNat xs = xs := by
              rcases Bool.or_eq_true _ _ |>.mp h2 with h | h
              · have : n = 1 := by simpa using h
                subst this
                show xs ++ [] = xs
                simp
              · have : xs.length = 0 := by rw [← strOf_len]; simpa using h
                rw [List.length_eq_zero_iff] at this
                subst this
                rw [rep_flat]
                generalize n.toNat = m
                induction m with
                | zero => rfl
                | succ m ih => simpa [List.replicate_succ] using ih
            have f := fin0 t1
            rw [e] at f
            exact f
          · have e : (⟨(List.replicate n.toNat (strOf xs).cps).foldl (· ++ ·) #[]⟩ : Str) = strOf (rep n.toNat xs) := by
              rw [rep_flat]
              have := size_repA xs n.toNat []
              show (⟨(List.replicate n.toNat xs.toArray).foldl (· ++ ·) #[]⟩ : Str) = ⟨_⟩
              rw [this]; rfl
            rw [e]
            refine ⟨?_, fin _⟩
            rw [strOf_len, rep_len, Nat.mul_comm]
            exact hl
    · cases e
  · cases e
end
end G

set_option Elab.async false
set_option linter.all false
set_option autoImplicit false
set_option maxRecDepth 100000
set_option maxHeartbeats 2000000
/-! G4: comparisons. -/
namespace G
open PySem L2
section
variable {C : Cn} {ρ : List Addr} {H : Hp}
/-- a value as it is read: a list may be one of the store -/
def Vw (C : Cn) (ρ : List Addr) (H : Hp) : W → V → Prop
  | .lst xs, v => ∃ p vs, v = .ref p ∧ H p = some (.lst vs) ∧ Reps C ρ H xs vs
  | a, v => Rep C ρ H a v
theorem Rep.vw {a : W} {v : V} (r : Rep C ρ H a v) : Vw C ρ H a v := by
  cases a with
  | lst xs =>
    simp only [Rep] at r
    obtain ⟨p, vs, e, _, e2, q⟩ := r
    exact ⟨p, vs, e, e2, q⟩
  | _ => exact r
theorem deref_vw {s : ST} {a b : W} {v : V} (S : SR C ρ H s) (r : Rep C ρ H a v) (h : deref s a = some b) : Vw C ρ H b v := by
  cases a with
  | ref n =>
    simp only [deref] at h
    split at h
    · rename_i xs e
      cases h
      obtain ⟨p, vs, e1, e2, q⟩ := seqL_rep (a := .ref n) (xs := xs) S r e
      exact ⟨p, vs, e1, e2, q⟩
    · cases h
  | _ => simp only [deref, Option.some.injEq] at h; subst h; exact r.vw
def pairE (xs ys : List W) (j : Nat) : Bool := weq (xs.getD j .non) (ys.getD j .non)
theorem weqs_all : ∀ xs ys : List W, ((List.range (min xs.length ys.length)).all (pairE xs ys) && xs.length == ys.length) = weqs xs ys
  | [], [] => by simp [weqs]
  | [], _ :: _ => by simp [weqs]
  | _ :: _, [] => by simp [weqs]
  | x :: xs, y :: ys => by
    have ih := weqs_all xs ys
    have e : min (xs.length + 1) (ys.length + 1) = min xs.length ys.length + 1 := by omega
    have e2 : ((List.range (min xs.length ys.length + 1)).all (pairE (x :: xs) (y :: ys))) = (weq x y && (List.range (min xs.length ys.length)).all (pairE xs ys)) := by
      rw [List.range_succ_eq_map, List.all_cons, List.all_map]
      rfl
    rw [List.length_cons, List.length_cons, e, e2, weqs, ← ih]
    cases weq x y <;> simp
theorem weqs_len {xs ys : List W} (h : xs.length ≠ ys.length) : weqs xs ys = false := by
  rw [← weqs_all]
  simp [h]
theorem eqOks_get : ∀ {n : Nat} {xs ys : List W} {j : Nat}, eqOks n xs ys = true → j < xs.length → j < ys.length → eqOk n (xs.getD j .non) (ys.getD j .non) = true
  | n, [], _, _, _, h, _ => by simp at h
  | n, _ :: _, [], _, _, _, h => by simp at h
  | n, x :: xs, y :: ys, 0, h, _, _ => by
    simp only [eqOks, Bool.and_eq_true] at h
    simpa using h.1
  | n, x :: xs, y :: ys, j + 1, h, h1, h2 => by
    simp only [eqOks, Bool.and_eq_true] at h
    have := eqOks_get (j := j) h.2 (by simpa using h1) (by simpa using h2)
    simpa using this
theorem Reps.getD {ws : List W} {vs : List V} {us : List Value} (r : Reps C ρ H ws vs) (q : Vals vs us) {j : Nat} (h : j < us.length) : ∃ v, Rep C ρ H (ws.getD j .non) v ∧ RelV v us[j] := by
  have h1 : j < vs.length := by rw [q.length]; exact h
  have h2 : j < ws.length := by rw [r.length]; exact h1
  obtain ⟨v, e1, r1⟩ := r.get (i := j) (w := ws[j]) (List.getElem?_eq_getElem h2)
  obtain ⟨u, e2, r2⟩ := q.get e1
  refine ⟨v, ?_, ?_⟩
  · rw [List.getD_eq_getElem?_getD, List.getElem?_eq_getElem h2]; exact r1
  · rw [List.getElem?_eq_getElem h] at e2
    cases e2; exact r2
theorem sc_flat {a : W} {v : V} (h : isSc a = true) (r : Vw C ρ H a v) : flatV v = true := by
  cases a <;> simp only [isSc, Bool.false_eq_true] at h <;> simp only [Vw, Rep] at r
  · subst r; rfl
  · subst r; rfl
  · subst r; rfl
  · obtain ⟨r, _⟩ := r; subst r; rfl
theorem eqV_rfl : ∀ {v : V}, flatV v = true → eqV v v = true
  | .non, _ => rfl
  | .bl b, _ => by simp [eqV]
  | .int i, _ => by simp [eqV]
  | .str x, _ => by simp [eqV]
theorem strOf_beq (x y : List Nat) : (strOf x == strOf y) = (x == y) := by
  rw [Bool.eq_iff_iff]
  simp [strOf]
theorem sc_eq {a b : W} {x y : V} (h : isSc a = true) (h' : isSc b = true) (ra : Vw C ρ H a x) (rb : Vw C ρ H b y) : weq a b = eqV x y := by
  cases a <;> simp only [isSc, Bool.false_eq_true] at h <;> cases b <;> simp only [isSc, Bool.false_eq_true] at h' <;> simp only [Vw, Rep] at ra rb
  all_goals first
    | (subst ra; subst rb; rfl)
    | (obtain ⟨ra, _⟩ := ra; subst ra; subst rb; rfl)
    | (obtain ⟨rb, _⟩ := rb; subst ra; subst rb; rfl)
    | (obtain ⟨ra, _⟩ := ra; obtain ⟨rb, _⟩ := rb; subst ra; subst rb; simp only [weq, eqV, strOf_beq])
theorem sq_ref {a : W} {v : V} (h : isSq a = true) (r : Vw C ρ H a v) : ∃ p, v = .ref p := by
  cases a <;> simp only [isSq, Bool.false_eq_true] at h
  · simp only [Vw, Rep] at r; obtain ⟨p, _, e, _⟩ := r; exact ⟨p, e⟩
  · simp only [Vw] at r; obtain ⟨p, _, e, _⟩ := r; exact ⟨p, e⟩
theorem sc_sq {a b : W} (h : isSc a = true) (h' : isSq b = true) : weq a b = false ∧ weq b a = false := by
  cases a <;> simp only [isSc, Bool.false_eq_true] at h <;> cases b <;> simp only [isSq, Bool.false_eq_true] at h' <;> simp [weq]
theorem sc_or_sq {n : Nat} {a b : W} (h : eqOk n a b = true) : (isSc a = true ∨ isSq a = true) ∧ (isSc b = true ∨ isSq b = true) := by
  cases n <;> cases a <;> cases b <;> simp [eqOk, isSc, isSq] at h ⊢
/-- two that stand at one address -/
theorem weq_same (hT : ∀ p xs ys, RT C ρ H p xs → RT C ρ H p ys → xs = ys) (hL : ∀ p xs ys, RT C ρ H p xs → H p = some (.lst ys) → False) :
    ∀ (n : Nat) (a b : W) (v : V), Vw C ρ H a v → Vw C ρ H b v → eqOk n a b = true → weq a b = true := by
  intro n
  have flat : ∀ (a b : W) (v : V), isSc a = true → isSc b = true → Vw C ρ H a v → Vw C ρ H b v → weq a b = true := fun a b v h1 h2 ra rb => by
    rw [sc_eq h1 h2 ra rb]
    exact eqV_rfl (sc_flat h1 ra)
  have mix : ∀ (a b : W) (v : V), isSc a = true → isSq b = true → Vw C ρ H a v → Vw C ρ H b v → False := fun a b v h1 h2 ra rb => by
    obtain ⟨p, rfl⟩ := sq_ref h2 rb
    have := sc_flat h1 ra
    simp [flatV] at this
  induction n with
  | zero =>
    intro a b v ra rb h
    simp only [eqOk, Bool.and_eq_true, Bool.or_eq_true] at h
    rcases h with ⟨h1, h2 | h2⟩ | ⟨h1, h2⟩
    · exact flat a b v h1 h2 ra rb
    · exact (mix a b v h1 h2 ra rb).elim
    · exact (mix b a v h2 h1 rb ra).elim
  | succ n ih =>
    intro a b v ra rb h
    have rows : ∀ (xs ys : List W) (vs : List V), Reps C ρ H xs vs → Reps C ρ H ys vs → eqOks n xs ys = true → weqs xs ys = true := by
      intro xs
      induction xs with
      | nil =>
        intro ys vs r1 r2 _
        have := r1.nil'; subst this
        have := r2.length
        cases ys with
        | nil => rfl
        | cons _ _ => simp at this
      | cons x xs ih2 =>
        intro ys vs r1 r2 hq
        obtain ⟨v, us, rfl, p1, p2⟩ := r1.cons'
        cases ys with
        | nil => have := r2.nil'; cases this
        | cons y ys =>
          obtain ⟨v', us', e, q1, q2⟩ := r2.cons'
          cases e
          simp only [eqOks, Bool.and_eq_true] at hq
          simp only [weqs, Bool.and_eq_true]
          exact ⟨ih x y v p1.vw q1.vw hq.1, ih2 ys us p2 q2 hq.2⟩
    obtain ⟨ka, kb⟩ := sc_or_sq h
    rcases ka with ka | ka
    · rcases kb with kb | kb
      · exact flat a b v ka kb ra rb
      · exact (mix a b v ka kb ra rb).elim
    · rcases kb with kb | kb
      · exact (mix b a v kb ka rb ra).elim
      · cases a <;> simp only [isSq, Bool.false_eq_true] at ka <;> cases b <;> simp only [isSq, Bool.false_eq_true] at kb
        · simp only [Vw, Rep] at ra rb
          obtain ⟨p, vs, rfl, r1, q1⟩ := ra
          obtain ⟨p', vs', e, r2, q2⟩ := rb
          cases e
          have := hT _ _ _ r1 r2
          subst this
          simp only [eqOk] at h
          simp only [weq]
          exact rows _ _ _ q1 q2 h
        · simp only [Vw, Rep] at ra rb
          obtain ⟨p, vs, rfl, r1, q1⟩ := ra
          obtain ⟨p', vs', e, r2, q2⟩ := rb
          cases e
          exact (hL _ _ _ r1 r2).elim
        · simp only [Vw, Rep] at ra rb
          obtain ⟨p, vs, rfl, r1, q1⟩ := ra
          obtain ⟨p', vs', e, r2, q2⟩ := rb
          cases e
          exact (hL _ _ _ r2 r1).elim
        · simp only [Vw] at ra rb
          obtain ⟨p, vs, rfl, r1, q1⟩ := ra
          obtain ⟨p', vs', e, r2, q2⟩ := rb
          cases e
          rw [r1] at r2; cases r2
          simp only [eqOk, Bool.or_eq_true] at h
          simp only [weq]
          rcases h with h | h
          · have := q1.length
            have := q2.length
            simp at h
            omega
          · exact rows _ _ _ q1 q2 h
end
section
variable {X : Cx} {C : Cn} {ρ : List Addr} {H : Hp} {pins : List (Addr × Obj)} {σ : St} {st : Shared}
theorem Inv.rt_inj (I : Inv X pins σ H st) (hX : X.K = C.K) : ∀ p xs ys, RT C ρ H p xs → RT C ρ H p ys → xs = ys := fun p xs ys a b => I.tuple_inj (hX ▸ a.sq) (hX ▸ b.sq)
theorem Inv.rt_lst (I : Inv X pins σ H st) (hX : X.K = C.K) : ∀ p xs ys, RT C ρ H p xs → H p = some (.lst ys) → False := fun p xs ys a b => by
  obtain ⟨its, r, ⟨o, e, c, _⟩, _⟩ := I.tuple (hX ▸ a.sq)
  obtain ⟨its', r', ⟨o', n', e', c', _, _⟩, _⟩ := I.list (X := X) (SqL.of b)
  rw [e] at e'; cases e'
  rw [c] at c'
  simp at c'
/-- how it stands in the model's heap -/
theorem Vw.lst (I : Inv X pins σ H st) {xs : List W} {v : V} {u : Value} (r : Vw C ρ H (.lst xs) v) (rv : RelV v u) : ∃ p its vs, u = .ref p ∧ st.heap.IsList p (List.toArray its) ∧ Reps C ρ H xs vs ∧ Vals vs its := by
  simp only [Vw] at r
  obtain ⟨p, vs, rfl, e, q⟩ := r
  obtain ⟨its, rr, pl, _⟩ := I.list (X := X) (SqL.of e)
  exact ⟨p, its, vs, rv, pl.isList, q, rr⟩
theorem Vw.tup (I : Inv X pins σ H st) (hX : X.K = C.K) {xs : List W} {v : V} {u : Value} (r : Vw C ρ H (.tup xs) v) (rv : RelV v u) : ∃ p its vs, u = .ref p ∧ st.heap.IsTuple p (List.toArray its) ∧ Reps C ρ H xs vs ∧ Vals vs its := by
  simp only [Vw, Rep] at r
  obtain ⟨p, vs, rfl, e, q⟩ := r
  obtain ⟨its, rr, pl, _⟩ := I.tuple (X := X) (hX ▸ e.sq)
  exact ⟨p, its, vs, rv, pl, q, rr⟩
theorem items_e {n : Nat} {xs ys : List W} {vs vs' : List V} {its its' : List Value} {A : Around} (q1 : Reps C ρ H xs vs) (r1 : Vals vs its) (q2 : Reps C ρ H ys vs') (r2 : Vals vs' its') (h : eqOks n xs ys = true)
    (ih : ∀ (a b : W) (x y : V) (v u : Value), Vw C ρ H a x → Vw C ρ H b y → RelV x v → RelV y u → eqOk n a b = true → SeqAt.EqAt A.in1 st v u (weq a b)) :
    ∀ j (h1 : j < its.toArray.size) (h2 : j < its'.toArray.size), SeqAt.EqAt A.in1 st its.toArray[j] its'.toArray[j] (pairE xs ys j) := fun j h1 h2 => by
  have h1' : j < its.length := by simpa using h1
  have h2' : j < its'.length := by simpa using h2
  obtain ⟨v, a1, a2⟩ := q1.getD r1 h1'
  obtain ⟨v', b1, b2⟩ := q2.getD r2 h2'
  have := ih _ _ _ _ _ _ a1.vw b1.vw a2 b2 (eqOks_get h (by rw [q1.length, r1.length]; exact h1') (by rw [q2.length, r2.length]; exact h2'))
  simpa [pairE] using this
theorem sz_of {xs : List W} {vs : List V} {its : List Value} (q : Reps C ρ H xs vs) (r : Vals vs its) : its.toArray.size = xs.length := by
  rw [List.size_toArray, ← r.length, ← q.length]
theorem eq_sc (hX : X.K = C.K) (I : Inv X pins σ H st) {A : Around} (hu : A.units < cLine) {a b : W} {x y : V} {v u : Value} (ra : Vw C ρ H a x) (rb : Vw C ρ H b y) (rv : RelV x v) (ru : RelV y u) (ka : isSc a = true) (kb : isSq b = true) :
    SeqAt.EqAt A st v u (weq a b) ∧ SeqAt.RcAt A st v u (weq a b) ∧ SeqAt.RcNeAt A st v u (!weq a b) := by
  rw [(sc_sq ka kb).1]
  cases b <;> simp only [isSq, Bool.false_eq_true] at kb
  · obtain ⟨p, its, vs, rfl, hl, _, _⟩ := Vw.tup I hX rb ru
    cases a <;> simp only [isSc, Bool.false_eq_true] at ka <;> simp only [Vw, Rep] at ra
    · subst ra; cases rv; exact ⟨SeqAt.EqAt.none_tuple hl hu, SeqAt.RcAt.none_tuple hl hu, SeqAt.RcNeAt.none_tuple hl hu⟩
    · subst ra; cases rv; exact ⟨SeqAt.EqAt.bool_tuple _ hl hu, SeqAt.RcAt.bool_tuple _ hl hu, SeqAt.RcNeAt.bool_tuple _ hl hu⟩
    · subst ra; obtain ⟨t, rfl⟩ := rv; exact ⟨SeqAt.EqAt.int_tuple _ _ hl hu, SeqAt.RcAt.int_tuple _ _ hl hu, SeqAt.RcNeAt.int_tuple _ _ hl hu⟩
    · obtain ⟨ra, _⟩ := ra; subst ra; obtain ⟨t, rfl⟩ := rv; exact ⟨SeqAt.EqAt.str_tuple _ _ hl hu, SeqAt.RcAt.str_tuple _ _ hl hu, SeqAt.RcNeAt.str_tuple _ _ hl hu⟩
  · obtain ⟨p, its, vs, rfl, hl, _, _⟩ := Vw.lst I rb ru
    cases a <;> simp only [isSc, Bool.false_eq_true] at ka <;> simp only [Vw, Rep] at ra
    · subst ra; cases rv; exact ⟨SeqAt.EqAt.none_list hl hu, SeqAt.RcAt.none_list hl hu, SeqAt.RcNeAt.none_list hl hu⟩
    · subst ra; cases rv; exact ⟨SeqAt.EqAt.bool_list _ hl hu, SeqAt.RcAt.bool_list _ hl hu, SeqAt.RcNeAt.bool_list _ hl hu⟩
    · subst ra; obtain ⟨t, rfl⟩ := rv; exact ⟨SeqAt.EqAt.int_list _ _ hl hu, SeqAt.RcAt.int_list _ _ hl hu, SeqAt.RcNeAt.int_list _ _ hl hu⟩
    · obtain ⟨ra, _⟩ := ra; subst ra; obtain ⟨t, rfl⟩ := rv; exact ⟨SeqAt.EqAt.str_list _ _ hl hu, SeqAt.RcAt.str_list _ _ hl hu, SeqAt.RcNeAt.str_list _ _ hl hu⟩
theorem eq_sq (hX : X.K = C.K) (I : Inv X pins σ H st) {A : Around} (hu : A.units < cLine) {a b : W} {x y : V} {v u : Value} (ra : Vw C ρ H a x) (rb : Vw C ρ H b y) (rv : RelV x v) (ru : RelV y u) (ka : isSq a = true) (kb : isSc b = true) :
    SeqAt.EqAt A st v u (weq a b) ∧ SeqAt.RcAt A st v u (weq a b) ∧ SeqAt.RcNeAt A st v u (!weq a b) := by
  rw [(sc_sq kb ka).2]
  cases a <;> simp only [isSq, Bool.false_eq_true] at ka
  · obtain ⟨p, its, vs, rfl, hl, _, _⟩ := Vw.tup I hX ra rv
    cases b <;> simp only [isSc, Bool.false_eq_true] at kb <;> simp only [Vw, Rep] at rb
    · subst rb; cases ru; exact ⟨SeqAt.EqAt.tuple_none hl hu, SeqAt.RcAt.tuple_none hl hu, SeqAt.RcNeAt.tuple_none hl hu⟩
    · subst rb; cases ru; exact ⟨SeqAt.EqAt.tuple_bool _ hl hu, SeqAt.RcAt.tuple_bool _ hl hu, SeqAt.RcNeAt.tuple_bool _ hl hu⟩
    · subst rb; obtain ⟨t, rfl⟩ := ru; exact ⟨SeqAt.EqAt.tuple_int _ _ hl hu, SeqAt.RcAt.tuple_int _ _ hl hu, SeqAt.RcNeAt.tuple_int _ _ hl hu⟩
    · obtain ⟨rb, _⟩ := rb; subst rb; obtain ⟨t, rfl⟩ := ru; exact ⟨SeqAt.EqAt.tuple_str _ _ hl hu, SeqAt.RcAt.tuple_str _ _ hl hu, SeqAt.RcNeAt.tuple_str _ _ hl hu⟩
  · obtain ⟨p, its, vs, rfl, hl, _, _⟩ := Vw.lst I ra rv
    cases b <;> simp only [isSc, Bool.false_eq_true] at kb <;> simp only [Vw, Rep] at rb
    · subst rb; cases ru; exact ⟨SeqAt.EqAt.list_none hl hu, SeqAt.RcAt.list_none hl hu, SeqAt.RcNeAt.list_none hl hu⟩
    · subst rb; cases ru; exact ⟨SeqAt.EqAt.list_bool _ hl hu, SeqAt.RcAt.list_bool _ hl hu, SeqAt.RcNeAt.list_bool _ hl hu⟩
    · subst rb; obtain ⟨t, rfl⟩ := ru; exact ⟨SeqAt.EqAt.list_int _ _ hl hu, SeqAt.RcAt.list_int _ _ hl hu, SeqAt.RcNeAt.list_int _ _ hl hu⟩
    · obtain ⟨rb, _⟩ := rb; subst rb; obtain ⟨t, rfl⟩ := ru; exact ⟨SeqAt.EqAt.list_str _ _ hl hu, SeqAt.RcAt.list_str _ _ hl hu, SeqAt.RcNeAt.list_str _ _ hl hu⟩
theorem RcAt_flat {A : Around} {y x : V} {u v : Value} (ry : RelV y u) (rx : RelV x v) (fy : flatV y = true) (fx : flatV x = true) : SeqAt.RcAt A st u v (eqV y x) ∧ SeqAt.RcNeAt A st u v (!eqV y x) := by
  cases y <;> simp only [flatV, Bool.false_eq_true] at fy <;> cases x <;> simp only [flatV, Bool.false_eq_true] at fx
  · cases ry; cases rx; exact ⟨SeqAt.RcAt.none_none, SeqAt.RcNeAt.none_none⟩
  · cases ry; cases rx; exact ⟨SeqAt.RcAt.none_bool _, SeqAt.RcNeAt.none_bool _⟩
  · cases ry; obtain ⟨t, rfl⟩ := rx; exact ⟨SeqAt.RcAt.none_int _ _, SeqAt.RcNeAt.none_int _ _⟩
  · cases ry; obtain ⟨t, rfl⟩ := rx; exact ⟨SeqAt.RcAt.none_str _ _, SeqAt.RcNeAt.none_str _ _⟩
  · cases ry; cases rx; exact ⟨SeqAt.RcAt.bool_none _, SeqAt.RcNeAt.bool_none _⟩
  · cases ry; cases rx; exact ⟨SeqAt.RcAt.bool_bool _ _, SeqAt.RcNeAt.bool_bool _ _⟩
  · cases ry; obtain ⟨t, rfl⟩ := rx; exact ⟨SeqAt.RcAt.bool_int _ _ _, SeqAt.RcNeAt.bool_int _ _ _⟩
  · cases ry; obtain ⟨t, rfl⟩ := rx; exact ⟨SeqAt.RcAt.bool_str _ _ _, SeqAt.RcNeAt.bool_str _ _ _⟩
  · obtain ⟨t', rfl⟩ := ry; cases rx; exact ⟨SeqAt.RcAt.int_none _ _, SeqAt.RcNeAt.int_none _ _⟩
  · obtain ⟨t', rfl⟩ := ry; cases rx; exact ⟨SeqAt.RcAt.int_bool _ _ _, SeqAt.RcNeAt.int_bool _ _ _⟩
  · obtain ⟨t', rfl⟩ := ry; obtain ⟨t, rfl⟩ := rx; exact ⟨SeqAt.RcAt.int_int _ _ _ _, SeqAt.RcNeAt.int_int _ _ _ _⟩
  · obtain ⟨t', rfl⟩ := ry; obtain ⟨t, rfl⟩ := rx; exact ⟨SeqAt.RcAt.int_str _ _ _ _, SeqAt.RcNeAt.int_str _ _ _ _⟩
  · obtain ⟨t', rfl⟩ := ry; cases rx; exact ⟨SeqAt.RcAt.str_none _ _, SeqAt.RcNeAt.str_none _ _⟩
  · obtain ⟨t', rfl⟩ := ry; cases rx; exact ⟨SeqAt.RcAt.str_bool _ _ _, SeqAt.RcNeAt.str_bool _ _ _⟩
  · obtain ⟨t', rfl⟩ := ry; obtain ⟨t, rfl⟩ := rx; exact ⟨SeqAt.RcAt.str_int _ _ _ _, SeqAt.RcNeAt.str_int _ _ _ _⟩
  · obtain ⟨t', rfl⟩ := ry; obtain ⟨t, rfl⟩ := rx; exact ⟨SeqAt.RcAt.str_str _ _ _ _, SeqAt.RcNeAt.str_str _ _ _ _⟩
/-- EQUALITY: the model's answers are weq's -/
theorem eq_at (hX : X.K = C.K) (I : Inv X pins σ H st) : ∀ (n : Nat) (A : Around), A.units + n < cLine → ∀ (a b : W) (x y : V) (v u : Value), Vw C ρ H a x → Vw C ρ H b y → RelV x v → RelV y u → eqOk n a b = true →
    SeqAt.EqAt A st v u (weq a b) ∧ SeqAt.RcAt A st v u (weq a b) ∧ SeqAt.RcNeAt A st v u (!weq a b) := by
  intro n
  induction n with
  | zero =>
    intro A hu a b x y v u ra rb rv ru h
    simp only [eqOk, Bool.and_eq_true, Bool.or_eq_true] at h
    rcases h with ⟨h1, h2 | h2⟩ | ⟨h1, h2⟩
    · rw [sc_eq h1 h2 ra rb]
      exact ⟨eqAt_V rv ru (sc_flat h1 ra) (sc_flat h2 rb), RcAt_flat rv ru (sc_flat h1 ra) (sc_flat h2 rb)⟩
    · exact eq_sc hX I (by omega) ra rb rv ru h1 h2
    · exact eq_sq hX I (by omega) ra rb rv ru h1 h2
  | succ n ih =>
    intro A hu a b x y v u ra rb rv ru h
    have hu0 : A.units < cLine := by omega
    have hin : A.in1.units + n < cLine := by show A.units + 1 + n < cLine; omega
    obtain ⟨ka, kb⟩ := sc_or_sq h
    rcases ka with ka | ka
    · rcases kb with kb | kb
      · rw [sc_eq ka kb ra rb]
        exact ⟨eqAt_V rv ru (sc_flat ka ra) (sc_flat kb rb), RcAt_flat rv ru (sc_flat ka ra) (sc_flat kb rb)⟩
      · exact eq_sc hX I hu0 ra rb rv ru ka kb
    · rcases kb with kb | kb
      · exact eq_sq hX I hu0 ra rb rv ru ka kb
      · have same : ∀ p, v = .ref p → u = .ref p → weq a b = true := fun p e1 e2 => by
          have : x = y := by
            subst e1; subst e2
            obtain ⟨px, rfl⟩ := sq_ref ka ra
            obtain ⟨py, rfl⟩ := sq_ref kb rb
            cases rv; cases ru; rfl
          subst this
          exact weq_same (Inv.rt_inj I hX) (Inv.rt_lst I hX) (n + 1) a b x ra rb h
        have wrap : ∀ p q k, v = .ref p → u = .ref q → weq a b = k → SeqAt.RcAt A st (.ref p) (.ref q) k → SeqAt.EqAt A st (.ref p) (.ref q) k := fun p q k e1 e2 e3 hk => by
          by_cases e : p = q
          · subst e
            rw [same p e1 e2] at e3
            subst e3
            exact SeqAt.EqAt.same _
          · exact SeqAt.EqAt.of_refs e hk
        cases a <;> simp only [isSq, Bool.false_eq_true] at ka <;> cases b <;> simp only [isSq, Bool.false_eq_true] at kb
        · rename_i xs ys
          obtain ⟨p, its, vs, rfl, hl, q1, r1⟩ := Vw.tup I hX ra rv
          obtain ⟨p2, its2, vs2, rfl, hl2, q2, r2⟩ := Vw.tup I hX rb ru
          simp only [eqOk] at h
          have hit := items_e (st := st) (A := A) q1 r1 q2 r2 h fun a b x y v u c1 c2 c3 c4 c5 => (ih A.in1 hin a b x y v u c1 c2 c3 c4 c5).1
          have ew : ((List.range (min its.toArray.size its2.toArray.size)).all (pairE xs ys) && its.toArray.size == its2.toArray.size) = weq (.tup xs) (.tup ys) := by
            rw [sz_of q1 r1, sz_of q2 r2, weqs_all]; simp only [weq]
          have k1 := SeqAt.RcAt.tuples hl hl2 hu0 hit
          have k2 := SeqAt.RcNeAt.tuples hl hl2 hu0 hit
          rw [ew] at k1 k2
          exact ⟨wrap _ _ _ rfl rfl rfl k1, k1, k2⟩
        · obtain ⟨p, its, vs, rfl, hl, q1, r1⟩ := Vw.tup I hX ra rv
          obtain ⟨p2, its2, vs2, rfl, hl2, q2, r2⟩ := Vw.lst I rb ru
          simp only [weq]
          exact ⟨SeqAt.EqAt.tuple_list hl hl2 hu0, SeqAt.RcAt.tuple_list hl hl2 hu0, SeqAt.RcNeAt.tuple_list hl hl2 hu0⟩
        · obtain ⟨p, its, vs, rfl, hl, q1, r1⟩ := Vw.lst I ra rv
          obtain ⟨p2, its2, vs2, rfl, hl2, q2, r2⟩ := Vw.tup I hX rb ru
          simp only [weq]
          exact ⟨SeqAt.EqAt.list_tuple hl hl2 hu0, SeqAt.RcAt.list_tuple hl hl2 hu0, SeqAt.RcNeAt.list_tuple hl hl2 hu0⟩
        · rename_i xs ys
          obtain ⟨p, its, vs, rfl, hl, q1, r1⟩ := Vw.lst I ra rv
          obtain ⟨p2, its2, vs2, rfl, hl2, q2, r2⟩ := Vw.lst I rb ru
          simp only [eqOk, Bool.or_eq_true] at h
          by_cases hn : xs.length = ys.length
          · have h' : eqOks n xs ys = true := by
              rcases h with h | h
              · simp [hn] at h
              · exact h
            have hit := items_e (st := st) (A := A) q1 r1 q2 r2 h' fun a b x y v u c1 c2 c3 c4 c5 => (ih A.in1 hin a b x y v u c1 c2 c3 c4 c5).1
            have hsz : its.toArray.size = its2.toArray.size := by rw [sz_of q1 r1, sz_of q2 r2]; exact hn
            have ew : (List.range its.toArray.size).all (pairE xs ys) = weq (.lst xs) (.lst ys) := by
              have := weqs_all xs ys
              rw [← hn, Nat.min_self] at this
              rw [sz_of q1 r1]; simp only [weq]
              rw [← this]; simp
            have k1 := SeqAt.RcAt.lists hl hl2 hsz hu0 hit
            have k2 := SeqAt.RcNeAt.lists hl hl2 hsz hu0 hit
            rw [ew] at k1 k2
            exact ⟨wrap _ _ _ rfl rfl rfl k1, k1, k2⟩
          · have hsz : (its.toArray.size != its2.toArray.size) = true := by rw [sz_of q1 r1, sz_of q2 r2]; simpa using hn
            have ew : weq (.lst xs) (.lst ys) = false := by simp only [weq]; exact weqs_len hn
            have k1 := SeqAt.RcAt.lists_lengths hl hl2 hsz hu0
            have k2 := SeqAt.RcNeAt.lists_lengths hl hl2 hsz hu0
            rw [ew]
            exact ⟨wrap _ _ _ rfl rfl ew k1, k1, k2⟩

end
section
variable {X : Cx} {C : Cn}
def copO : Cop → CmpOp
  | .eq => .Eq | .ne => .NotEq | .lt => .Lt | .le => .LtE | .gt => .Gt | .ge => .GtE | .is => .Is | .isnot => .IsNot | .isin => .In | .notin => .NotIn
theorem slt_lt : ∀ (x y : List Nat), slt x y = decide (x < y)
  | [], [] => by simp [slt]
  | _ :: _, [] => by simp [slt]
  | [], _ :: _ => by simp [slt]
  | a :: x, b :: y => by
    have ih := slt_lt x y
    simp only [slt]
    split
    · rename_i h
      simp [List.cons_lt_cons_iff, h]
    · split
      · rename_i h1 h2
        have : ¬ a = b := by omega
        simp [List.cons_lt_cons_iff, h1, this]
      · rename_i h1 h2
        have : a = b := by omega
        subst this
        simp [List.cons_lt_cons_iff, ih]
theorem Reps.at_ {ρ : List Addr} {H : Hp} : ∀ {ws : List W} {vs : List V} {us : List Value} {j : Nat} {u : Value}, Reps C ρ H ws vs → Vals vs us → us[j]? = some u → ∃ w v, ws[j]? = some w ∧ Rep C ρ H w v ∧ RelV v u
  | ws, vs, us, j, u, r, q, e => by
    have hj := (List.getElem?_eq_some_iff.mp e).1
    obtain ⟨v, a1, a2⟩ := r.getD q hj
    have hw : j < ws.length := by rw [r.length, q.length]; exact hj
    refine ⟨ws[j], v, List.getElem?_eq_getElem hw, ?_, ?_⟩
    · rw [List.getD_eq_getElem?_getD, List.getElem?_eq_getElem hw] at a1; exact a1
    · rw [List.getElem?_eq_getElem hj] at e; cases e; exact a2
open Classical in
theorem vw_any {ρ : List Addr} {H : Hp} {pins : List (Addr × Obj)} {σ : St} {st : Shared} (hX : X.K = C.K) (I : L2.Inv X pins σ H st) {A : Around} (hu : A.units + 63 < cLine) {a : W} {x : V} {v : Value} (ra : Vw C ρ H a x) (rv : RelV x v)
    {ys : List W} {vs : List V} {us : List Value} (r : Reps C ρ H ys vs) (q : Vals vs us) (h : memOk a ys = true) : ∃ e : Value → Bool, (∀ u ∈ us, SeqAt.EqAt A st u v (e u)) ∧ us.any e = ys.any fun y => weq y a := by
  have all : ∀ j y, ys[j]? = some y → eqOk 63 y a = true := fun j y e => by
    simp only [memOk, List.all_eq_true] at h
    exact h y (List.mem_of_getElem? e)
  have ans : ∀ j u y, us[j]? = some u → ys[j]? = some y → SeqAt.EqAt A st u v (weq y a) := fun j u y e1 e2 => by
    obtain ⟨w', v', a1, a2, a3⟩ := r.at_ q e1
    rw [e2] at a1; cases a1
    exact (eq_at hX I 63 A hu y a v' x u v a2.vw ra a3 rv (all j y e2)).1
  refine ⟨fun (u : Value) => decide (∃ (j : Nat) (y : W), us[j]? = some u ∧ ys[j]? = some y ∧ weq y a = true), fun u hu' => ?_, ?_⟩
  · obtain ⟨j, hj⟩ := List.mem_iff_getElem?.mp hu'
    by_cases hc : ∃ (j : Nat) (y : W), us[j]? = some u ∧ ys[j]? = some y ∧ weq y a = true
    · show SeqAt.EqAt A st u v (decide _)
      rw [decide_eq_true hc]
      obtain ⟨j', y, e1, e2, e3⟩ := hc
      rw [← e3]
      exact ans j' u y e1 e2
    · show SeqAt.EqAt A st u v (decide _)
      rw [decide_eq_false hc]
      obtain ⟨w', v', a1, _, _⟩ := r.at_ q hj
      have : weq w' a = false := by
        cases hw : weq w' a with
        | false => rfl
        | true => exact (hc ⟨j, w', hj, a1, hw⟩).elim
      rw [← this]
      exact ans j u w' hj a1
  · rw [Bool.eq_iff_iff, List.any_eq_true, List.any_eq_true]
    constructor
    · rintro ⟨u, _, hu'⟩
      obtain ⟨j, y, e1, e2, e3⟩ := of_decide_eq_true hu'
      exact ⟨y, List.mem_of_getElem? e2, e3⟩
    · rintro ⟨y, hy, e3⟩
      obtain ⟨j, e2⟩ := List.mem_iff_getElem?.mp hy
      have hj := (List.getElem?_eq_some_iff.mp e2).1
      have hj' : j < us.length := by rw [← q.length, ← r.length]; exact hj
      exact ⟨us[j], List.getElem_mem hj', decide_eq_true ⟨j, y, List.getElem?_eq_getElem hj', e2, e3⟩⟩
theorem dec_any {p : Prop} (i j : Decidable p) : @decide p i = @decide p j := by
  cases i <;> cases j <;> first | rfl | contradiction
theorem bl_eq {Q : VK} {H : Hp} {i j : Bool} (e : i = j) (q : Q (.bl i) H) : Q (.bl j) H := e ▸ q
/-- two values' comparison -/
def rCmp (C : Cn) (g : W → W → ST → Option Bool) : R2 := fun x y H Q => ∃ ρ s a b k, SR C ρ H s ∧ Rep C ρ H a x ∧ Rep C ρ H b y ∧ g a b s = some k ∧ Q (.bl k) H
theorem op_mem (hX : X.K = C.K) (hu : X.A.units + 64 < cLine) {s : ST} {ρ : List Addr} {H : Hp} {pins : List (Addr × Obj)} {σ : St} {st : Shared} (I : L2.Inv X pins σ H st) (S : SR C ρ H s) {a b : W} {x y : V} {v u : Value} (ra : Rep C ρ H a x) (rb : Rep C ρ H b y) (rx : RelV x v) (ry : RelV y u)
    {ys : List W} (h1 : seqI s b = some ys) (h2 : memOk a ys = true) {Q : VK} :
    (Q (.bl (ys.any fun y => weq y a)) H → wpAny (model X.prog X.w) X.A (compareOp .In v u) (EP X pins σ Q) X.xe st) ∧ (Q (.bl (!ys.any fun y => weq y a)) H → wpAny (model X.prog X.w) X.A (compareOp .NotIn v u) (EP X pins σ Q) X.xe st) := by
  obtain ⟨p, vs, rfl, hs, r⟩ := seqI_rep S rb h1
  cases ry
  have hu' : X.A.in1.units + 63 < cLine := by show X.A.units + 1 + 63 < cLine; omega
  rw [← hX] at hs
  rcases hs with hs | hs
  · obtain ⟨its, q, pl, _⟩ := I.list hs
    obtain ⟨e, e1, e2⟩ := vw_any hX I hu' ra.vw rx r q h2
    rw [← e2]
    have e3 : its.toArray.any e = its.any e := by simp
    exact ⟨fun k => SeqAt.in_listAt e pl.isList (fun w hw => e1 w (by simpa using hw)) ⟨.bl _, H, I, rfl, by rw [e3]; exact k⟩, fun k => SeqAt.notIn_listAt e pl.isList (fun w hw => e1 w (by simpa using hw)) ⟨.bl _, H, I, rfl, by rw [e3]; exact k⟩⟩
  · obtain ⟨its, q, pl, _⟩ := I.tuple hs
    obtain ⟨e, e1, e2⟩ := vw_any hX I hu' ra.vw rx r q h2
    rw [← e2]
    have e3 : its.toArray.any e = its.any e := by simp
    exact ⟨fun k => SeqAt.in_tupleAt e pl (fun w hw => e1 w (by simpa using hw)) ⟨.bl _, H, I, rfl, by rw [e3]; exact k⟩, fun k => SeqAt.notIn_tupleAt e pl (fun w hw => e1 w (by simpa using hw)) ⟨.bl _, H, I, rfl, by rw [e3]; exact k⟩⟩
theorem op_cmp (hX : X.K = C.K) (hu : X.A.units + 64 < cLine) (op : Cop) : OpR X (compareOp (copO op)) (rCmp C (cmpop op)) := by
  intro pins σt σ H x y v u Q I rx ry h
  obtain ⟨ρ, s, a, b, k, S, ra, rb, e, q⟩ := h
  have eqs : ∀ k', wEq s a b = some k' → (Q (.bl k') H → wpAny (model X.prog X.w) X.A (compareOp .Eq v u) (EP X pins σ Q) X.xe σt) ∧ (Q (.bl (!k')) H → wpAny (model X.prog X.w) X.A (compareOp .NotEq v u) (EP X pins σ Q) X.xe σt) := fun k' e => by
    unfold wEq at e
    split at e
    · rename_i a' b' h1 h2
      split at e
      · rename_i ho
        cases e
        obtain ⟨_, k1, k2⟩ := eq_at hX I 64 X.A hu a' b' x y v u (deref_vw S ra h1) (deref_vw S rb h2) rx ry ho
        exact ⟨fun q => k1 _ _ _ _ ⟨.bl _, H, I, rfl, q⟩, fun q => k2 _ _ _ _ ⟨.bl _, H, I, rfl, q⟩⟩
      · cases e
    · cases e
  cases op
  · exact (eqs k e).1 q
  · simp only [cmpop, Option.map_eq_some_iff] at e
    obtain ⟨k', e1, rfl⟩ := e
    exact (eqs k' e1).2 q
  · simp only [cmpop] at e
    split at e
    · cases e
      rw [ra.int] at rx; rw [rb.int] at ry
      exact op_lt pins σt σ H _ _ v u Q I rx ry ⟨_, _, rfl, rfl, q⟩
    · cases e
      rw [ra.str.1] at rx; rw [rb.str.1] at ry
      exact op_lt_str pins σt σ H _ _ v u Q I rx ry ⟨_, _, rfl, rfl, bl_eq (by rw [slt_lt]; exact dec_any _ _) q⟩
    · cases e
  · simp only [cmpop] at e
    split at e
    · cases e
      rw [ra.int] at rx; rw [rb.int] at ry
      exact op_le pins σt σ H _ _ v u Q I rx ry ⟨_, _, rfl, rfl, q⟩
    · cases e
      rw [ra.str.1] at rx; rw [rb.str.1] at ry
      exact op_le_str pins σt σ H _ _ v u Q I rx ry ⟨_, _, rfl, rfl, bl_eq (by rw [slt_lt]; exact congrArg (!·) (dec_any _ _)) q⟩
    · cases e
  · simp only [cmpop] at e
    split at e
    · cases e
      rw [ra.int] at rx; rw [rb.int] at ry
      exact op_gt pins σt σ H _ _ v u Q I rx ry ⟨_, _, rfl, rfl, q⟩
    · cases e
      rw [ra.str.1] at rx; rw [rb.str.1] at ry
      exact op_gt_str pins σt σ H _ _ v u Q I rx ry ⟨_, _, rfl, rfl, bl_eq (by rw [slt_lt]; exact dec_any _ _) q⟩
    · cases e
  · simp only [cmpop] at e
    split at e
    · cases e
      rw [ra.int] at rx; rw [rb.int] at ry
      exact op_ge pins σt σ H _ _ v u Q I rx ry ⟨_, _, rfl, rfl, q⟩
    · cases e
      rw [ra.str.1] at rx; rw [rb.str.1] at ry
      exact op_ge_str pins σt σ H _ _ v u Q I rx ry ⟨_, _, rfl, rfl, bl_eq (by rw [slt_lt]; exact congrArg (!·) (dec_any _ _)) q⟩
    · cases e
  · simp only [cmpop] at e
    split at e
    · rw [rb.non] at ry
      refine op_isN pins σt σ H x _ v u Q I rx ry ⟨rfl, ?_⟩
      cases e
      cases a <;> simp only [Rep] at ra
      all_goals first
        | (subst ra; exact q)
        | (obtain ⟨ra, _⟩ := ra; subst ra; exact q)
        | (obtain ⟨p, vs, ra, _⟩ := ra; subst ra; exact q)
        | (obtain ⟨p, ra, _⟩ := ra; subst ra; exact q)
        | (obtain ⟨p, _, ra⟩ := ra; subst ra; exact q)
    · split at e
      · cases e
        rw [ra.bl] at rx; rw [rb.bl] at ry
        exact op_isBl pins σt σ H _ _ v u Q I rx ry ⟨_, _, rfl, rfl, by rw [← Bool.beq_eq_decide_eq]; exact q⟩
      · cases e
    · cases e
  · simp only [cmpop] at e
    split at e
    · rw [rb.non] at ry
      refine op_notN pins σt σ H x _ v u Q I rx ry ⟨rfl, ?_⟩
      cases e
      cases a <;> simp only [Rep] at ra
      all_goals first
        | (subst ra; exact q)
        | (obtain ⟨ra, _⟩ := ra; subst ra; exact q)
        | (obtain ⟨p, vs, ra, _⟩ := ra; subst ra; exact q)
        | (obtain ⟨p, ra, _⟩ := ra; subst ra; exact q)
        | (obtain ⟨p, _, ra⟩ := ra; subst ra; exact q)
    · split at e
      · cases e
        rw [ra.bl] at rx; rw [rb.bl] at ry
        exact op_notBl pins σt σ H _ _ v u Q I rx ry ⟨_, _, rfl, rfl, by rw [← Bool.beq_eq_decide_eq]; exact q⟩
      · cases e
    · cases e
  · simp only [cmpop] at e
    split at e
    · cases e
      rw [ra.str.1] at rx; rw [rb.str.1] at ry
      exact op_in_sign pins σt σ H _ _ v u Q I rx ry ⟨_, _, rfl, rfl, bl_eq (dec_any _ _) q⟩
    · split at e
      · rename_i ys h1
        split at e
        · rename_i h2
          cases e
          exact (op_mem hX hu I S ra rb rx ry h1 h2).1 q
        · cases e
      · cases e
  · simp only [cmpop] at e
    split at e
    · cases e
      rw [ra.str.1] at rx; rw [rb.str.1] at ry
      exact op_notIn_sign pins σt σ H _ _ v u Q I rx ry ⟨_, _, rfl, rfl, bl_eq (congrArg (!·) (dec_any _ _)) q⟩
    · split at e
      · rename_i ys h1
        split at e
        · rename_i h2
          cases e
          exact (op_mem hX hu I S ra rb rx ry h1 h2).2 q
        · cases e
      · cases e
end
end G

set_option Elab.async false
set_option linter.all false
set_option autoImplicit false
set_option maxRecDepth 100000
set_option maxHeartbeats 2000000
/-! G5: items, slices, built-ins. -/
namespace G
open PySem PySem.Spec PyProof.Rows L2
section
variable {X : Cx} {C : Cn}
theorem Reps.ints {ρ : List Addr} {H : Hp} : ∀ {ws : List W} {vs : List V} {ns : List Int}, Reps C ρ H ws vs → intsW ws = some ns → vs = ns.map V.int
  | [], vs, ns, r, e => by
    simp only [intsW, Option.some.injEq] at e; subst e
    exact r.nil'
  | w :: ws, vs, ns, r, e => by
    obtain ⟨v, us, rfl, r1, r2⟩ := r.cons'
    cases w <;> simp only [intsW, Option.map_eq_some_iff, reduceCtorEq] at e
    obtain ⟨ms, e1, rfl⟩ := e
    rw [Reps.ints r2 e1, r1.int]; rfl
theorem Reps.bools {ρ : List Addr} {H : Hp} : ∀ {ws : List W} {vs : List V} {ns : List Bool}, Reps C ρ H ws vs → boolsW ws = some ns → vs = ns.map V.bl
  | [], vs, ns, r, e => by
    simp only [boolsW, Option.some.injEq] at e; subst e
    exact r.nil'
  | w :: ws, vs, ns, r, e => by
    obtain ⟨v, us, rfl, r1, r2⟩ := r.cons'
    cases w <;> simp only [boolsW, Option.map_eq_some_iff, reduceCtorEq] at e
    obtain ⟨ms, e1, rfl⟩ := e
    rw [Reps.bools r2 e1, r1.bl]; rfl
theorem Reps.strs {ρ : List Addr} {H : Hp} : ∀ {ws : List W} {vs : List V} {ns : List (List Nat)}, Reps C ρ H ws vs → strsW ws = some ns → vs = (ns.map strOf).map V.str ∧ ∀ l ∈ ns, okS l
  | [], vs, ns, r, e => by
    simp only [strsW, Option.some.injEq] at e; subst e
    exact ⟨r.nil', fun _ h => nomatch h⟩
  | w :: ws, vs, ns, r, e => by
    obtain ⟨v, us, rfl, r1, r2⟩ := r.cons'
    cases w <;> simp only [strsW, Option.map_eq_some_iff, reduceCtorEq] at e
    obtain ⟨ms, e1, rfl⟩ := e
    obtain ⟨h1, h2⟩ := Reps.strs r2 e1
    rw [h1, r1.str.1]
    refine ⟨rfl, fun l hl => ?_⟩
    rcases List.mem_cons.mp hl with rfl | hl
    · exact r1.str.2
    · exact h2 l hl
theorem fold_max : ∀ (xs : List Int) (x : Int), (xs.foldl (fun a b => if a < b then b else a) x) ∈ x :: xs ∧ ∀ y ∈ x :: xs, y ≤ xs.foldl (fun a b => if a < b then b else a) x
  | [], x => by simp
  | z :: xs, x => by
    have ih := fold_max xs (if x < z then z else x)
    rw [List.foldl_cons]
    refine ⟨?_, fun y hy => ?_⟩
    · rcases List.mem_cons.mp ih.1 with h | h
      · rw [h]; split <;> simp
      · simp [h]
    · have h0 := ih.2 _ List.mem_cons_self
      rcases List.mem_cons.mp hy with rfl | hy
      · (revert h0; generalize List.foldl (fun a b : Int => if a < b then b else a) _ xs = m; intro h0; split at h0 <;> omega)
      · rcases List.mem_cons.mp hy with rfl | hy
        · (revert h0; generalize List.foldl (fun a b : Int => if a < b then b else a) _ xs = m; intro h0; split at h0 <;> omega)
        · exact ih.2 y (List.mem_cons_of_mem _ hy)
theorem fold_min : ∀ (xs : List Int) (x : Int), (xs.foldl (fun a b => if b < a then b else a) x) ∈ x :: xs ∧ ∀ y ∈ x :: xs, xs.foldl (fun a b => if b < a then b else a) x ≤ y
  | [], x => by simp
  | z :: xs, x => by
    have ih := fold_min xs (if z < x then z else x)
    rw [List.foldl_cons]
    refine ⟨?_, fun y hy => ?_⟩
    · rcases List.mem_cons.mp ih.1 with h | h
      · rw [h]; split <;> simp
      · simp [h]
    · have h0 := ih.2 _ List.mem_cons_self
      rcases List.mem_cons.mp hy with rfl | hy
      · (revert h0; generalize List.foldl (fun a b : Int => if b < a then b else a) _ xs = m; intro h0; split at h0 <;> omega)
      · rcases List.mem_cons.mp hy with rfl | hy
        · (revert h0; generalize List.foldl (fun a b : Int => if b < a then b else a) _ xs = m; intro h0; split at h0 <;> omega)
        · exact ih.2 y (List.mem_cons_of_mem _ hy)
/-- a built-in's call by values -/
def rBi (C : Cn) (b : Bi) : List V → Hp → VK → Prop := fun vs H Q => ∃ ρ s ws w, SR C ρ H s ∧ Reps C ρ H ws vs ∧ biop b ws s = some w ∧ OkP C ρ H s w Q
theorem rep1 {ρ : List Addr} {H : Hp} {a : W} {vs : List V} (r : Reps C ρ H [a] vs) : ∃ v, vs = [v] ∧ Rep C ρ H a v := by
  obtain ⟨v, us, rfl, r1, r2⟩ := r.cons'
  have := r2.nil'; subst this
  exact ⟨v, rfl, r1⟩
theorem cb_len (hX : X.K = C.K) : CallR X (.builtin "len") (rBi C .len) := by
  intro pins st σ H xs us Q I r h
  obtain ⟨ρ, s, ws, w, S, rs, e, k⟩ := h
  simp only [biop] at e
  unfold bLen at e
  split at e <;> (try (cases e; done))
  · split at e
    · rename_i hl
      cases e
      obtain ⟨v, rfl, r1⟩ := rep1 rs
      rw [r1.str.1] at r
      refine call_len pins st σ H _ _ Q I r ⟨_, _, rfl, ⟨by rw [strOf_len, ← line_eq]; exact hl, rfl⟩, ?_⟩
      rw [strOf_len]
      exact k.here S Rep.mkI
    · cases e
  · simp only [Option.map_eq_some_iff] at e
    obtain ⟨ys, e1, rfl⟩ := e
    obtain ⟨v, rfl, r1⟩ := rep1 rs
    obtain ⟨p, vs, rfl, hs, r2⟩ := seqI_rep S r1 e1
    refine call_len_seq pins st σ H _ _ Q I r ⟨p, vs, rfl, hX ▸ hs, ?_⟩
    rw [← r2.length]
    exact k.here S Rep.mkI
theorem cb_abs : CallR X (.builtin "abs") (rBi C .abs) := by
  intro pins st σ H xs us Q I r h
  obtain ⟨ρ, s, ws, w, S, rs, e, k⟩ := h
  simp only [biop] at e
  unfold bAbs at e
  split at e
  · cases e
    obtain ⟨v, rfl, r1⟩ := rep1 rs
    rw [r1.int] at r
    exact call_abs pins st σ H _ _ Q I r ⟨_, rfl, k.here S Rep.mkI⟩
  · cases e
theorem cb_int : CallR X (.type "int") (rBi C .int) := by
  intro pins st σ H xs us Q I r h
  obtain ⟨ρ, s, ws, w, S, rs, e, k⟩ := h
  simp only [biop] at e
  unfold bInt at e
  split at e <;> (try (cases e; done))
  · cases e
    obtain ⟨v, rfl, r1⟩ := rep1 rs
    rw [r1.int] at r
    exact call_int1 pins st σ H _ _ Q I r (.inl ⟨_, rfl, k.here S Rep.mkI⟩)
  · cases e
    obtain ⟨v, rfl, r1⟩ := rep1 rs
    rw [r1.bl] at r
    exact call_int1 pins st σ H _ _ Q I r (.inr ⟨_, rfl, k.here S Rep.mkI⟩)
theorem reps_ints {ρ : List Addr} {H : Hp} : ∀ ns : List Int, Reps C ρ H (ns.map .int) (ns.map V.int)
  | [] => by simp only [List.map_nil, Reps]
  | n :: ns => by
    simp only [List.map_cons]
    exact Reps.mk Rep.mkI (reps_ints ns)
/-- what list(x) takes -/
theorem list_of {ρ : List Addr} {H : Hp} {s : ST} {a w : W} {v : V} (S : SR C ρ H s) (r : Rep C ρ H a v) (e : biop .list [a] s = some w) : ∃ ws p vs, w = .lst ws ∧ v = .ref p ∧ (SqL C.K H p vs ∨ SqT C.K H p vs) ∧ Reps C ρ H ws vs := by
  cases a with
  | scr ns =>
    simp only [biop, bList, Option.some.injEq] at e; subst e
    simp only [Rep] at r
    obtain ⟨p, rfl, ⟨_, rd⟩ | rd⟩ := r
    · exact ⟨_, p, _, rfl, rfl, .inl (.inl rd), reps_ints _⟩
    · exact ⟨_, p, _, rfl, rfl, .inl (.inr rd), reps_ints _⟩
  | _ =>
    simp only [biop, bList, Option.map_eq_some_iff] at e
    obtain ⟨ys, e1, rfl⟩ := e
    obtain ⟨p, vs, rfl, hs, r2⟩ := seqI_rep S r e1
    exact ⟨_, p, _, rfl, rfl, hs, r2⟩
theorem biop_list1 {s : ST} {ws : List W} {w : W} (e : biop .list ws s = some w) : ∃ a, ws = [a] := by
  simp only [biop] at e
  unfold bList at e
  split at e <;> (try (cases e; done)) <;> exact ⟨_, rfl⟩
theorem cb_list (hX : X.K = C.K) : CallR X (.type "list") (rBi C .list) := by
  intro pins st σ H xs us Q I r h
  obtain ⟨ρ, s, ws, w, S, rs, e, k⟩ := h
  obtain ⟨a, rfl⟩ := biop_list1 e
  obtain ⟨v, rfl, r1⟩ := rep1 rs
  obtain ⟨ws, p, vs, rfl, rfl, hs, r2⟩ := list_of S r1 e
  exact call_list_of pins st σ H _ _ Q I r ⟨p, vs, rfl, hX ▸ hs, k.lst S r2⟩
theorem cb_tuple (hX : X.K = C.K) : CallR X (.type "tuple") (rBi C .tuple) := by
  intro pins st σ H xs us Q I r h
  obtain ⟨ρ, s, ws, w, S, rs, e, k⟩ := h
  simp only [biop] at e
  unfold bTuple at e
  split at e <;> (try (cases e; done))
  rename_i a
  simp only [Option.map_eq_some_iff] at e
  obtain ⟨ys, e1, rfl⟩ := e
  obtain ⟨v, rfl, r1⟩ := rep1 rs
  cases a with
  | tup zs =>
    simp only [seqI, Option.some.injEq] at e1; subst e1
    have r1' := r1
    obtain ⟨p, vs, rfl, q, r2⟩ := r1.tup
    exact call_tuple_of pins st σ H _ _ Q I r ⟨p, vs, rfl, .inr ⟨hX ▸ q.sq, k.here S r1'⟩⟩
  | lst zs =>
    obtain ⟨p, vs, rfl, hs, r2⟩ := seqL_rep (xs := ys) S r1 e1
    exact call_tuple_of pins st σ H _ _ Q I r ⟨p, vs, rfl, .inl ⟨SqL.of hs, k.tup S r2⟩⟩
  | ref n =>
    obtain ⟨p, vs, rfl, hs, r2⟩ := seqL_rep (xs := ys) S r1 e1
    exact call_tuple_of pins st σ H _ _ Q I r ⟨p, vs, rfl, .inl ⟨SqL.of hs, k.tup S r2⟩⟩
  | _ => simp [seqI] at e1
theorem cb_max (hc : X.calm = true) : CallR X (.builtin "max") (rBi C .max) := by
  intro pins st σ H xs us Q I r h
  obtain ⟨ρ, s, ws, w, S, rs, e, k⟩ := h
  simp only [biop] at e
  unfold bTwo at e
  split at e
  · rename_i i j
    cases e
    obtain ⟨v, us', rfl, r1, r2⟩ := rs.cons'
    obtain ⟨u, rfl, r3⟩ := rep1 r2
    rw [r1.int, r3.int] at r
    exact call_max2 hc pins st σ H _ _ Q I r ⟨i, j, rfl, k.here S Rep.mkI⟩
  unfold bInts at e
  split at e <;> (try (cases e; done))
  simp only [Option.bind_eq_some_iff, Option.map_eq_some_iff] at e
  obtain ⟨ys, e1, ns, e2, m, e3, rfl⟩ := e
  obtain ⟨v, rfl, r1⟩ := rep1 rs
  obtain ⟨p, vs, rfl, hs, r2⟩ := seqL_rep S r1 e1
  have := r2.ints e2; subst this
  cases ns with
  | nil => simp [lmax] at e3
  | cons n ns =>
    simp only [lmax, Option.some.injEq] at e3
    obtain ⟨f1, f2⟩ := fold_max ns n
    rw [e3] at f1 f2
    refine cr_max hc pins st σ H _ _ Q I r ⟨p, n :: ns, rfl, SqL.of hs, by simp, fun m' h1 h2 => ?_⟩
    have : m' = m := Int.le_antisymm (f2 m' h1) (h2 m f1)
    subst this
    exact k.here S Rep.mkI
theorem cb_min (hc : X.calm = true) : CallR X (.builtin "min") (rBi C .min) := by
  intro pins st σ H xs us Q I r h
  obtain ⟨ρ, s, ws, w, S, rs, e, k⟩ := h
  simp only [biop] at e
  unfold bTwo at e
  split at e
  · rename_i i j
    cases e
    obtain ⟨v, us', rfl, r1, r2⟩ := rs.cons'
    obtain ⟨u, rfl, r3⟩ := rep1 r2
    rw [r1.int, r3.int] at r
    exact call_min2 hc pins st σ H _ _ Q I r ⟨i, j, rfl, k.here S Rep.mkI⟩
  unfold bInts at e
  split at e <;> (try (cases e; done))
  simp only [Option.bind_eq_some_iff, Option.map_eq_some_iff] at e
  obtain ⟨ys, e1, ns, e2, m, e3, rfl⟩ := e
  obtain ⟨v, rfl, r1⟩ := rep1 rs
  obtain ⟨p, vs, rfl, hs, r2⟩ := seqL_rep S r1 e1
  have := r2.ints e2; subst this
  cases ns with
  | nil => simp [lmin] at e3
  | cons n ns =>
    simp only [lmin, Option.some.injEq] at e3
    obtain ⟨f1, f2⟩ := fold_min ns n
    rw [e3] at f1 f2
    refine cr_min hc pins st σ H _ _ Q I r ⟨p, n :: ns, rfl, SqL.of hs, by simp, fun m' h1 h2 => ?_⟩
    have : m' = m := Int.le_antisymm (h2 m f1) (f2 m' h1)
    subst this
    exact k.here S Rep.mkI
theorem cb_sum (hc : X.calm = true) : CallR X (.builtin "sum") (rBi C .sum) := by
  intro pins st σ H xs us Q I r h
  obtain ⟨ρ, s, ws, w, S, rs, e, k⟩ := h
  simp only [biop] at e
  unfold bInts at e
  split at e <;> (try (cases e; done))
  simp only [Option.bind_eq_some_iff, Option.map_eq_some_iff] at e
  obtain ⟨ys, e1, ns, e2, m, e3, rfl⟩ := e
  cases e3
  obtain ⟨v, rfl, r1⟩ := rep1 rs
  obtain ⟨p, vs, rfl, hs, r2⟩ := seqL_rep S r1 e1
  have := r2.ints e2; subst this
  exact cr_sum hc pins st σ H _ _ Q I r ⟨p, ns, rfl, SqL.of hs, k.here S Rep.mkI⟩
theorem cb_all (hc : X.calm = true) : CallR X (.builtin "all") (rBi C .all) := by
  intro pins st σ H xs us Q I r h
  obtain ⟨ρ, s, ws, w, S, rs, e, k⟩ := h
  simp only [biop] at e
  unfold bBools at e
  split at e <;> (try (cases e; done))
  simp only [Option.bind_eq_some_iff, Option.map_eq_some_iff] at e
  obtain ⟨ys, e1, ns, e2, rfl⟩ := e
  obtain ⟨v, rfl, r1⟩ := rep1 rs
  obtain ⟨p, vs, rfl, hs, r2⟩ := seqL_rep S r1 e1
  have := r2.bools e2; subst this
  exact cr_all hc pins st σ H _ _ Q I r ⟨p, ns, rfl, SqL.of hs, k.here S Rep.mkB⟩
theorem cb_any (hc : X.calm = true) : CallR X (.builtin "any") (rBi C .any) := by
  intro pins st σ H xs us Q I r h
  obtain ⟨ρ, s, ws, w, S, rs, e, k⟩ := h
  simp only [biop] at e
  unfold bBools at e
  split at e <;> (try (cases e; done))
  simp only [Option.bind_eq_some_iff, Option.map_eq_some_iff] at e
  obtain ⟨ys, e1, ns, e2, rfl⟩ := e
  obtain ⟨v, rfl, r1⟩ := rep1 rs
  obtain ⟨p, vs, rfl, hs, r2⟩ := seqL_rep S r1 e1
  have := r2.bools e2; subst this
  exact cr_any hc pins st σ H _ _ Q I r ⟨p, ns, rfl, SqL.of hs, k.here S Rep.mkB⟩
/-- a value's type -/
def tyW : W → Option String
  | .non => some "NoneType" | .bl _ => some "bool" | .int _ => some "int" | .str _ => some "str" | .tup _ => some "tuple" | .lst _ => some "list" | .ref _ => some "list" | _ => none
theorem tyW_X {ρ : List Addr} {H : Hp} {s : ST} {a : W} {v : V} {t : String} (hX : X.K = C.K) (S : SR C ρ H s) (r : Rep C ρ H a v) (e : tyW a = some t) : TyX X.K H v (.type t) := by
  cases a <;> simp only [tyW, Option.some.injEq, reduceCtorEq] at e <;> subst e <;> simp only [Rep] at r
  · subst r; exact .base .non
  · subst r; exact .base (.bl _)
  · subst r; exact .base (.int _)
  · obtain ⟨r, _⟩ := r; subst r; exact .base (.str _)
  · obtain ⟨p, vs, rfl, q, _⟩ := r
    rcases q with ⟨_, q | ⟨o, q⟩⟩ | ⟨o, its, n, q1, q2, _⟩
    · exact .base (.tup q)
    · exact .fTuple q
    · exact .kTuple (hX ▸ q1) q2
  · obtain ⟨p, vs, rfl, _, q, _⟩ := r; exact .base (.lst q)
  · obtain ⟨p, e, rfl⟩ := r
    obtain ⟨vs, q⟩ := S.some (List.mem_of_getElem? e)
    exact .base (.lst q)
theorem isTy_kit {a : W} {t : String} {k : Bool} (e : isTy a t = some k) : ∃ u, tyW a = some u ∧ PySem.W.kitOne X.K (.type u) (.type t) = some k := by
  unfold isTy at e
  split at e
  all_goals first
    | (cases e; done)
    | (cases a <;> simp only [Option.some.injEq, reduceCtorEq] at e <;> subst e <;> exact ⟨_, rfl, kit_ty (by decide +kernel)⟩)
theorem cb_isi (hX : X.K = C.K) : CallR X (.builtin "isinstance") (rBi C .isi) := by
  intro pins st σ H xs us Q I r h
  obtain ⟨ρ, s, ws, w, S, rs, e, k⟩ := h
  simp only [biop] at e
  unfold bIsi at e
  split at e
  · rename_i a t

    obtain ⟨b, e1, rfl⟩ := Option.map_eq_some_iff.mp e
    obtain ⟨v, us', rfl, r1, r2⟩ := rs.cons'
    obtain ⟨v2, rfl, r3⟩ := rep1 r2
    unfold Rep at r3; subst r3
    obtain ⟨u, e2, e3⟩ := isTy_kit (X := X) e1
    exact call_isi pins st σ H _ _ Q I r ⟨v, _, _, _, b, rfl, .ty t, tyW_X hX S r1 e2, e3, k.here S Rep.mkB⟩
  · cases e
/-! items and slices -/
theorem okS_sub {l m : List Nat} (h : okS l) (s : ∀ c ∈ m, c ∈ l) : okS m := fun c hc => h c (s c hc)
theorem cut_eq (xs : List V) (lo hi : Option Int) : cutV xs lo hi = cut xs lo hi := rfl
theorem cut_str (l : List Nat) (lo hi : Option Int) : cutS (strOf l) lo hi = strOf (cut l lo hi) := by
  unfold cutS
  rw [strOf_len]
  rfl
theorem okS_cut {l : List Nat} (h : okS l) (lo hi : Option Int) : okS (cut l lo hi) := okS_sub h fun c hc => List.mem_of_mem_drop (List.mem_of_mem_take hc)
theorem Reps.cut {ρ : List Addr} {H : Hp} {ws : List W} {vs : List V} (r : Reps C ρ H ws vs) (lo hi : Option Int) : Reps C ρ H (cut ws lo hi) (cutV vs lo hi) := by
  rw [cut_eq]
  unfold G.cut
  rw [← r.length]
  exact (r.drop _).take _
/-- a slice by values -/
def rSl (C : Cn) : V → Option Int → Option Int → Hp → VK → Prop := fun x lo hi H Q => ∃ ρ s a w, SR C ρ H s ∧ Rep C ρ H a x ∧ slice a lo hi s = some w ∧ OkP C ρ H s w Q
theorem sl_all (hX : X.K = C.K) : SlR X (rSl C) := by
  intro pins st σ H x v vl vu lo hi sl Q I rx hs pl pu h
  obtain ⟨ρ, s, a, w, S, ra, e, k⟩ := h
  unfold slice at e
  split at e
  · split at e
    · rename_i hl
      cases e
      rw [ra.str.1] at rx
      refine sl_str pins st σ H _ v vl vu lo hi sl Q I rx hs pl pu ⟨_, rfl, by rw [strOf_len, ← line_eq]; exact hl, ?_⟩
      rw [cut_str]
      exact k.here S (Rep.mkS (okS_cut ra.str.2 _ _))
    · cases e
  · cases e
    have ra' := ra
    obtain ⟨p, vs, rfl, q, r⟩ := ra.tup
    refine sl_tupA pins st σ H _ v vl vu lo hi sl Q I rx hs pl pu ⟨p, vs, rfl, hX ▸ q.sq, fun hw => ?_, fun _ => k.tup S (r.cut lo hi)⟩
    refine k.here S ?_
    rename_i xs
    have : cut xs lo hi = xs := by
      unfold cut
      have h1 : cutIx xs.length 0 lo = 0 := by rw [r.length]; exact hw.1
      have h2 : cutIx xs.length xs.length hi = xs.length := by rw [r.length]; exact hw.2
      rw [h1, h2]; simp
    rw [this]; exact ra'
  · simp only [Option.map_eq_some_iff] at e
    obtain ⟨ys, e1, rfl⟩ := e
    obtain ⟨p, vs, rfl, q, r⟩ := seqL_rep S ra e1
    exact sl_list pins st σ H _ v vl vu lo hi sl Q I rx hs pl pu ⟨p, vs, rfl, SqL.of q, k.lst S (r.cut lo hi)⟩
theorem ix_eq (n : Nat) (i : Int) : ixN n i = ixOf i n := rfl
/-- an item by values, but of a dict -/
def rIt (C : Cn) : R2 := fun x y H Q => ∃ ρ s a b w, SR C ρ H s ∧ Rep C ρ H a x ∧ Rep C ρ H b y ∧ (∀ ks vs, a ≠ .dct ks vs) ∧ item a b s = some w ∧ OkP C ρ H s w Q
theorem it_all (hX : X.K = C.K) : IxR X (rIt C) := by
  intro value slc pins st σ H x y v u Q I rx ry h hs
  obtain ⟨ρ, s, a, b, w, S, ra, rb, nd, e, k⟩ := h
  have fin : ∀ (i : Int) (xs : List W), b = .int i → seqI s a = some xs → ((ixOf i xs.length).bind fun j => xs[j]?) = some w → wpAny (model X.prog X.w) X.A (subscriptTail value slc v u) (EP X pins σ Q) X.xe st := fun i xs eb e1 e2 => by
    subst eb
    simp only [Option.bind_eq_some_iff] at e2
    obtain ⟨j, e2, e3⟩ := e2
    rw [rb.int] at ry
    obtain ⟨p, vs, rfl, hq, r⟩ := seqI_rep S ra e1
    obtain ⟨z, e4, r2⟩ := r.get e3
    have e5 : atI vs i = some z := by
      unfold atI
      rw [ix_eq, ← r.length, e2]; exact e4
    rw [← hX] at hq
    rcases hq with hq | hq
    · exact ix_list value slc pins st σ H _ _ v u Q I rx ry ⟨p, vs, i, z, rfl, rfl, hq, e5, k.here S r2⟩ hs
    · exact ix_tup value slc pins st σ H _ _ v u Q I rx ry ⟨p, vs, i, z, rfl, rfl, hq, e5, k.here S r2⟩ hs
  unfold item at e
  split at e
  · rename_i l i
    split at e
    · rename_i hl
      simp only [Option.map_eq_some_iff, Option.bind_eq_some_iff] at e
      obtain ⟨c, ⟨j, e1, e2⟩, rfl⟩ := e
      rw [ra.str.1] at rx; rw [rb.int] at ry
      refine ix_str value slc pins st σ H _ _ v u Q I rx ry ⟨_, _, c, rfl, rfl, by rw [strOf_len, ← line_eq]; exact hl, ?_, k.here S (Rep.mkS (l := [c]) ?_)⟩ hs
      · show atI l i = some c
        unfold atI
        rw [ix_eq, e1]; exact e2
      · exact okS_sub ra.str.2 fun d hd => by
          have : d = c := by simpa using hd
          subst this
          exact List.mem_of_getElem? e2
    · cases e
  · exact (nd _ _ rfl).elim
  · simp only [Option.bind_eq_some_iff] at e
    obtain ⟨xs, e1, e2⟩ := e
    exact fin _ xs rfl e1 (by simpa only [Option.bind_eq_some_iff] using e2)
  · cases e
end
end G

set_option Elab.async false
set_option linter.all false
set_option autoImplicit false
set_option maxRecDepth 100000
set_option maxHeartbeats 2000000
/-! GT: defs that call a lambda and tell which error they met. -/
namespace G
open PySem PySem.Spec PyProof.Rows L2 LamX
/-- what is done with a clause: passed; its suite; its suite, the error's name in slot i -/
inductive Go where
  | past
  | suite (ts : Addr → Value → Option Addr → TS)
  | named (i : Nat) (ts : Addr → Value → Option Addr → TS)
/-- the ends of a suite behind which the name in slot i goes -/
def ungo (i : Nat) (D : Ends) : Ends := ⟨fun σ => D.nx (σ.set i none), D.rt, fun σ => D.bk (σ.set i none), fun σ => D.ct (σ.set i none)⟩
/-- what the clauses want of an error of the body -/
def wCl (K : PySem.W.Frag) (Wo : WX) (D : Ends) : List (Value × Go) → WX
  | [], cls, d, σ, H => Wo cls d σ H
  | (c, g) :: r, cls, d, σ, H => match PySem.W.exmOne K cls c, g with
    | some true, .suite ts => ∀ a, H a = none → ts a cls d D σ H
    | some true, .named i ts => ∀ a, H a = none → ts a cls d (ungo i D) (σ.set i (some (.ref a))) H
    | some false, _ => wCl K Wo D r cls d σ H
    | _, _ => False
/-- the clauses of a try; full: none is left out at the end -/
inductive Clauses (X : Cx) : Bool → List ExceptHandler → List (Value × Go) → Prop
  | none : Clauses X true [] []
  | rest {hds : List ExceptHandler} : Clauses X false hds []
  | past {f : Bool} {x : Str} {c : Value} {nm : Option Str} {bs : List Stmt} {p q : Pos} {hds : List ExceptHandler} {l : List (Value × Go)} (hc : Names X x c) (r : Clauses X f hds l) :
      Clauses X f (.ExceptHandler (some (.Name x p)) nm bs q :: hds) ((c, .past) :: l)
  | suite {f : Bool} {x : Str} {c : Value} {ts : Addr → Value → Option Addr → TS} {b : Stmt} {bs : List Stmt} {p q : Pos} {hds : List ExceptHandler} {l : List (Value × Go)} (hc : Names X x c)
      (su : ∀ (a : Addr) (oe : Obj) (cls : Value) (d : Option Addr) (pn : List (Addr × Obj)), Zc cls d oe → (∃ vs, oe.data = .fields vs) → PSs (X.suite a ((a, oe) :: pn)) (b :: bs) (ts a cls d)) (r : Clauses X f hds l) :
      Clauses X f (.ExceptHandler (some (.Name x p)) none (b :: bs) q :: hds) ((c, .suite ts) :: l)
  | named {f : Bool} {i : Nat} {x n : Str} {c : Value} {ts : Addr → Value → Option Addr → TS} {b : Stmt} {bs : List Stmt} {p q : Pos} {hds : List ExceptHandler} {l : List (Value × Go)} (hc : Names X x c)
      (hN : X.N[i]? = some n) (hn : X.N.Nodup) (hl : X.env.kindOf n = some .local)
      (su : ∀ (a : Addr) (oe : Obj) (cls : Value) (d : Option Addr) (pn : List (Addr × Obj)), Zc cls d oe → (∃ vs, oe.data = .fields vs) → PSs (X.suite a ((a, oe) :: pn)) (b :: bs) (ts a cls d)) (r : Clauses X f hds l) :
      Clauses X f (.ExceptHandler (some (.Name x p)) (some n) (b :: bs) q :: hds) ((c, .named i ts) :: l)
abbrev W0 : WX := fun _ _ _ _ => False
/-- an error that has been caught, where its clauses are asked: B, s0 tell whence it came -/
structure Cau (X : Cx) (pins : List (Addr × Obj)) (B : Heap) (s0 : Shared) (a : Addr) (cls : Value) (d : Option Addr) (σ : L2.St) (H : Hp) (s : Shared) : Prop where
  ok : X.Ok
  fr : X.env.frame = some X.env.locals
  st : X.stack = X.env :: X.outer
  inv : Inv X pins σ H s0
  nb : ∀ b o, s0.heap.get? b = some o → b ∉ frs X.stack → B.get? b = some o
  up : s0.heap.UpToSlots s.heap
  os : s.os = s0.os
  gens : AllBare s.gens
  fly : HandSPX.FlyingZ B (X.env :: X.outer) a (Zc cls d) s.heap
  new : H a = none
section
variable {X : Cx} {pins : List (Addr × Obj)} {B : Heap} {s0 s : Shared} {a : Addr} {cls : Value} {d : Option Addr} {σ : L2.St} {H : Hp}
theorem Cau.here (c : Cau X pins B s0 a cls d σ H s) : Inv X pins σ H s := c.inv.landed c.nb c.fly.1 c.up c.os c.gens
theorem Cau.hop (c : Cau X pins B s0 a cls d σ H s) {h : Heap} (f : HandSPX.FlyingZ B (X.env :: X.outer) a (Zc cls d) h) (u : s.heap.UpToSlots h) : Cau X pins B s0 a cls d σ H { s with heap := h } :=
  { c with up := c.up.trans u, fly := f }
/-- seen from within a clause -/
theorem Cau.within (c : Cau X pins B s0 a cls d σ H s) : ∃ (oe : Obj) (vs : Array Value), s.heap.get? a = some oe ∧ Zc cls d oe ∧ oe.data = .fields vs ∧ Inv (X.suite a ((a, oe) :: (X.pn ++ pins))) [] σ H s := by
  obtain ⟨oe, vs, e1, e2, e3⟩ := c.fly.there
  have apart : a ∉ frs (X.env :: X.outer) := by
    intro hm
    obtain ⟨q, u, e4, e5⟩ := c.fly.2.2.1.mem hm
    rw [e1] at e4
    cases e4
    exact e5 _ e3
  have mine : ∀ e ∈ X.env :: X.outer, e.frame ≠ some a := fun e he q => apart (List.mem_filterMap.mpr ⟨e, he, q⟩)
  refine ⟨oe, vs, e1, e2, e3, c.here.suite e1 e3 c.new ?_ ?_⟩
  · intro q
    exact mine X.env List.mem_cons_self (by rw [c.fr, q])
  · intro q
    obtain ⟨e, he, hf⟩ := List.mem_filterMap.mp q
    exact mine e (List.mem_cons_of_mem _ he) hf
theorem Cau.name (c : Cau X pins B s0 a cls d σ H s) {x : Str} {p : Pos} {v : Value} {Q E : Value → Shared → Prop} (hx : Names X x v) (q : Q v s) : wpAny (model X.prog X.w) (X.A.mark (some (.ref a))) (eval (.Name x p) X.env) Q E s := by
  obtain ⟨oe, vs, _, _, _, I⟩ := c.within
  rcases hx with ⟨g, nd, m | ⟨m, bv, nn⟩⟩
  · exact ld_glob I g m q nd
  · exact ld_blt I g m bv q nn nd
/-- a clause is asked -/
theorem Cau.ask (c : Cau X pins B s0 a cls d σ H s) {x : Str} {p q : Pos} {v : Value} {nm : Option Str} {bs : List Stmt} {hds : List ExceptHandler} {k : Bool} {Q : Flow → Shared → Prop} (hx : Names X x v) (hk : PySem.W.exmOne X.K cls v = some k)
    (no : k = false → wpAny (model X.prog X.w) X.A (handleBy (.ref a) X.env hds) Q X.xe s)
    (yes : k = true → codeAny (model X.prog X.w) (X.A.mark (some (.ref a))) (.handlers (.ref a) [.ExceptHandler none nm bs q] X.env) (fun r s2 => match r with
      | .ok f => (match nm with
        | none => Q f s2
        | some n => wpAny (model X.prog X.w) X.A (do bindName X.env n .none; unbindBehindTheSuite X.env n q) (fun _ s3 => Q f s3) X.xe s2)
      | .error y => cameBackBy (model X.prog X.w) X.A X.env X.xe y s2) s) :
    wpAny (model X.prog X.w) X.A (handleBy (.ref a) X.env (.ExceptHandler (some (.Name x p)) nm bs q :: hds)) Q X.xe s := by
  obtain ⟨oe, _, e1, e2, _⟩ := c.fly.there
  have ty : PySem.W.Looks (model X.prog X.w) s.heap (typeOf (.ref a)) cls := fun A Q E u k' h => wpAny_typeOf_ref (k' _ _ e1) (by rw [e2.1]; exact h)
  refine wpAny_handleBy_cons (codeAny_handlers_test (c.name hx ?_)) nofun
  refine (PySem.W.exm_one (M := model X.prog X.w) c.here.kIn ty hk).here ?_
  cases k
  · exact no rfl
  · exact yes rfl
theorem sp_unsuite {D : Ends} {q : Addr × Obj} {pn : List (Addr × Obj)} (ok : X.Ok) : ∀ {f : Flow} {s : Shared}, SP (X.suite a (q :: (X.pn ++ pins))) pn D f s → SP X pins D f s
  | .next, _, ⟨_, _, I, w⟩ => ⟨_, _, I.unsuite ok, w⟩
  | .brk, _, ⟨_, _, I, w⟩ => ⟨_, _, I.unsuite ok, w⟩
  | .cont, _, ⟨_, _, I, w⟩ => ⟨_, _, I.unsuite ok, w⟩
  | .ret _, _, ⟨_, _, _, I, r, w⟩ => ⟨_, _, _, I.unsuite ok, r, w⟩
/-- .. the name going -/
theorem sp_ungo {D : Ends} {i : Nat} {n : Str} {pos : Pos} (hn : X.N.Nodup) (hN : X.N[i]? = some n) (hl : X.env.kindOf n = some .local) : ∀ {f : Flow} {s : Shared}, SP X pins (ungo i D) f s →
    wpAny (model X.prog X.w) X.A (do bindName X.env n .none; unbindBehindTheSuite X.env n pos) (fun _ s' => SP X pins D f s') X.xe s
  | .next, _, ⟨_, _, I, w⟩ => gone_ok I hn hN hl fun _ J => ⟨_, _, J, w⟩
  | .brk, _, ⟨_, _, I, w⟩ => gone_ok I hn hN hl fun _ J => ⟨_, _, J, w⟩
  | .cont, _, ⟨_, _, I, w⟩ => gone_ok I hn hN hl fun _ J => ⟨_, _, J, w⟩
  | .ret _, _, ⟨_, _, _, I, r, w⟩ => gone_ok I hn hN hl fun _ J => ⟨_, _, _, J, r, w⟩
/-- no clause is left: the error goes on -/
theorem Cau.out (c : Cau X pins B s0 a cls d σ H s) {Wo : WX} {Q : Flow → Shared → Prop} (tk : Takes X Wo) (w : Wo cls d σ H) : wpAny (model X.prog X.w) X.A (handleBy (.ref a) X.env []) Q X.xe s := by
  obtain ⟨_, _, _, oe, vs, T, oT, ts', e1, e2, e3, e4, _⟩ := id c.fly
  refine wpAny_handleBy_nil ?_
  unfold PySem.passOn
  refine wpAny_bind (wpAny_field e1 e3 e4 ?_)
  rw [if_neg (by simp)]
  have go : wpAny (model X.prog X.w) X.A (setFlight (.ref a) X.env.frame) (fun _ s2 => wpAny (model X.prog X.w) X.A (throw (.ref a) : Sem Flow) Q X.xe s2) X.xe s := by
    rw [c.fr]
    refine HandSPX.setFlight_upZ c.fly fun h2 hh u2 => wpAny_throw (tk _ _ ⟨a, B, s0, pins, σ, H, cls, d, rfl, c.inv, c.nb, c.up.trans u2, ?_, c.new, c.os, c.gens, w⟩)
    rw [c.st]
    exact .inr (.inr hh)
  first
    | exact wpAny_bind (wpAny_pure (wpAny_bind go))
    | exact wpAny_bind go
/-- the clauses, one behind the other -/
theorem Cau.handle {Wo : WX} {D : Ends} {f : Bool} {hds : List ExceptHandler} {l : List (Value × Go)} (hh : Clauses X f hds l) : (f = true ∧ Takes X Wo) ∨ (∀ cls d σ H, ¬ Wo cls d σ H) → Cau X pins B s0 a cls d σ H s → wCl X.K Wo D l cls d σ H →
    wpAny (model X.prog X.w) X.A (handleBy (.ref a) X.env hds) (SP X pins D) X.xe s := by
  induction hh with
  | none =>
    intro tk c w
    rcases tk with ⟨_, tk⟩ | no
    · exact c.out tk w
    · exact (no _ _ _ _ w).elim
  | rest =>
    intro tk c w
    rcases tk with ⟨q, _⟩ | no
    · cases q
    · exact (no _ _ _ _ w).elim
  | past hc r ih =>
    intro tk c w
    simp only [wCl] at w
    split at w
    · rename_i q; cases q
    · rename_i q; cases q
    · rename_i e
      exact c.ask hc e (fun _ => ih tk c w) nofun
    · exact w.elim
  | suite hc su r ih =>
    intro tk c w
    simp only [wCl] at w
    split at w
    · rename_i e q
      cases q
      refine c.ask hc e nofun fun _ => codeAny_handlers_suite (HandSPX.lands_againZ c.fly fun h f2 u2 => ?_)
      obtain ⟨oe, vs, _, z, dd, I⟩ := (c.hop f2 u2).within
      exact wpAny_mono ((su a oe cls d (X.pn ++ pins) z ⟨vs, dd⟩).run [] _ _ _ _ I (w a c.new)) (fun f s6 hs => sp_unsuite c.ok hs) fun _ _ q => q.elim
    · rename_i q; cases q
    · rename_i e
      exact c.ask hc e (fun _ => ih tk c w) nofun
    · exact w.elim
  | named hc hN hn hl su r ih =>
    intro tk c w
    simp only [wCl] at w
    split at w
    · rename_i q; cases q
    · rename_i e q
      cases q
      refine c.ask hc e nofun fun _ => codeAny_handlers_suite_as (HandSPX.lands_againZ c.fly fun h f2 u2 => ?_)
      obtain ⟨oe, vs, _, z, dd, I⟩ := (c.hop f2 u2).within
      refine store_ok (X := X.suite a ((a, oe) :: (X.pn ++ pins))) (v := .ref a) I hn hN (.inl hl) rfl (fun s5 I5 => ?_) (.inr hl)
      exact wpAny_mono ((su a oe cls d (X.pn ++ pins) z ⟨vs, dd⟩).run [] _ _ _ _ I5 (w a c.new)) (fun f s6 hs => sp_ungo hn hN hl (sp_unsuite c.ok hs)) fun _ _ q => q.elim
    · rename_i e
      exact c.ask hc e (fun _ => ih tk c w) nofun
    · exact w.elim
end
section
variable {X : Cx} {body : List Stmt} {h0 : ExceptHandler} {hds : List ExceptHandler} {l : List (Value × Go)} {pos : Pos} {tb : WX → TS} {Wo : WX}
theorem sp_untry {pins pn : List (Addr × Obj)} {xe : Value → Shared → Prop} {D : Ends} (ok : X.Ok) : ∀ {f : Flow} {s : Shared}, SP (X.tr (X.pn ++ pins) xe) pn D f s → SP X pins D f s
  | .next, _, ⟨_, _, I, w⟩ => ⟨_, _, I.ofTry ok, w⟩
  | .brk, _, ⟨_, _, I, w⟩ => ⟨_, _, I.ofTry ok, w⟩
  | .cont, _, ⟨_, _, I, w⟩ => ⟨_, _, I.ofTry ok, w⟩
  | .ret _, _, ⟨_, _, _, I, r, w⟩ => ⟨_, _, _, I.ofTry ok, r, w⟩
theorem ps_clauses {full : Bool} (st : X.stack = X.env :: X.outer) (fr : X.env.frame = some X.env.locals) (tk : (full = true ∧ Takes X Wo) ∨ (∀ cls d σ H, ¬ Wo cls d σ H))
    (hb : ∀ (W : WX) (pn : List (Addr × Obj)) (xe : Value → Shared → Prop), Takes (X.tr pn xe) W → PassesOwn (model X.prog X.w) X.A X.env xe → PSs (X.tr pn xe) body (tb W))
    (hh : Clauses X full (h0 :: hds) l) : PS X (.Try body (h0 :: hds) [] [] pos) (fun D σ H => tb (wCl X.K Wo D l) D σ H) := by
  refine ⟨fun pins s σ H D I h => wpAny_Try_except ?_⟩
  have frs' : X.A.frames = some (X.env :: X.outer) := I.ok.frames.trans (congrArg some st)
  have caught : ∀ xe u s', XE (X.tr (X.pn ++ pins) xe) (wCl X.K Wo D l) u s' → wpAny (model X.prog X.w) X.A (noteFrame u X.env) (fun _ s2 => wpAny (model X.prog X.w) X.A (setFlight u none) (fun _ s3 => wpAny (model X.prog X.w) X.A (handleBy u X.env (h0 :: hds)) (SP X pins D) X.xe s3) X.xe s2) X.xe s' := by
    rintro xe u s' ⟨a, B, sI, pn', σ', H', cls, d, rfl, J, nb, up, sky, new, os, gens, w⟩
    refine Sky.land Zc.steady frs' fr (st ▸ sky) fun h f u2 => ?_
    exact Cau.handle (B := B) (s0 := sI) hh tk ⟨I.ok, fr, st, J.ofTry I.ok, nb, up.trans u2, os, gens, f, new⟩ w
  refine wpAny_mono ((hb (wCl X.K Wo D l) (X.pn ++ pins) (fun u s' => wpAny (model X.prog X.w) X.A (noteFrame u X.env) (fun _ s2 => wpAny (model X.prog X.w) X.A (setFlight u none) (fun _ s3 => wpAny (model X.prog X.w) X.A (handleBy u X.env (h0 :: hds)) (SP X pins D) X.xe s3) X.xe s2) X.xe s')
    (fun u s' x => caught _ u s' x) PassesOwn.looking).run [] s σ H D (I.toTry _) h) (fun f s1 hs => ?_) fun _ _ q => q
  have done := sp_untry I.ok hs
  cases f with
  | next => exact wpAny_execs_nil done
  | _ => exact done
end
/-- the clauses of a teller: the class, the text (none: a clause that is passed) -/
inductive TellHs (mg : Str → Option Value) (sg : Scope) : List ExceptHandler → List (Value × Option (List Nat)) → Prop
  | nil {hds : List ExceptHandler} : TellHs mg sg hds []
  | ret {e z : Str} {c : Value} {t : List Nat} {j : Nat} {p4 p5 p6 p7 : Pos} {hds : List ExceptHandler} {hs : List (Value × Option (List Nat))} (h1 : sg.names.lookup e = some .globalImplicit) (h2 : mg e = some c) (h3 : (e == ("__debug__" : Str)) = false) (h4 : z = strOf t)
      (r : TellHs mg sg hds hs) : TellHs mg sg (.ExceptHandler (some (.Name e p4)) none [.Return (some (.Constant (.str z) j p5)) p6] p7 :: hds) ((c, some t) :: hs)
  | skip {e : Str} {c : Value} {nm : Option Str} {suite : List Stmt} {p4 p7 : Pos} {hds : List ExceptHandler} {hs : List (Value × Option (List Nat))} (h1 : sg.names.lookup e = some .globalImplicit) (h2 : mg e = some c) (h3 : (e == ("__debug__" : Str)) = false)
      (r : TellHs mg sg hds hs) : TellHs mg sg (.ExceptHandler (some (.Name e p4)) nm suite p7 :: hds) ((c, none) :: hs)
/-- what is told of an error of this class -/
def tellOf (K : PySem.W.Frag) (cls : Value) : List (Value × Option (List Nat)) → Option (List Nat)
  | [] => none
  | (c, o) :: r => match PySem.W.exmOne K cls c with
    | some true => o
    | some false => tellOf K cls r
    | none => none
def wTl (K : PySem.W.Frag) (Q : VK) (cls : Value) (H : Hp) : List (Value × Option (List Nat)) → Prop
  | [] => False
  | (c, o) :: r => ∃ b, PySem.W.exmOne K cls c = some b ∧ (b = true → ∃ t, o = some t ∧ Q (.str (strOf t)) H) ∧ (b = false → wTl K Q cls H r)
theorem tell_w {K : PySem.W.Frag} {Q : VK} {cls : Value} {H : Hp} {t : List Nat} : ∀ {hs : List (Value × Option (List Nat))}, tellOf K cls hs = some t → Q (.str (strOf t)) H → wTl K Q cls H hs
  | [], h, _ => by simp [tellOf] at h
  | (c, o) :: r, h, q => by
    simp only [tellOf] at h
    split at h
    · rename_i e
      refine ⟨true, e, fun _ => ⟨t, h, q⟩, ?_⟩
      intro z; cases z
    · rename_i e
      refine ⟨false, e, ?_, fun _ => tell_w h q⟩
      intro z; cases z
    · cases h
def TTell (K : PySem.W.Frag) (hs : List (Value × Option (List Nat))) : (XK → Hp → VK → Prop) → Hp → VK → Prop := fun tl H Q =>
  tl (fun cls _ H' => wTl K Q cls H' hs) H (fun _ H' => Q (.str (strOf [])) H')
def tsOf : Value × Option (List Nat) → Value × Go
  | (c, some t) => (c, .suite fun _ _ _ => tRet (tC (.str (strOf t))))
  | (c, none) => (c, .past)
section
variable {X : Cx}
theorem hds_of (Y : Cx) {sg : Scope} (hY : Y.mg = X.mg) (hs' : ∀ e, sg.names.lookup e = some .globalImplicit → Gl Y e) : ∀ {hds : List ExceptHandler} {hs : List (Value × Option (List Nat))}, TellHs X.mg sg hds hs → Clauses Y false hds (hs.map tsOf)
  | _, _, .nil => .rest
  | _, _, .ret h1 h2 h3 h4 r => by
    subst h4
    exact .suite ⟨hs' _ h1, h3, .inl (by rw [hY]; exact h2)⟩ (fun a oe cls d pn _ _ => pss_one (ps_ret pe_str)) (hds_of Y hY hs' r)
  | _, _, .skip h1 h2 h3 r => .past ⟨hs' _ h1, h3, .inl (by rw [hY]; exact h2)⟩ (hds_of Y hY hs' r)
theorem many_of {K : PySem.W.Frag} {D : Ends} {cls : Value} {d : Option Addr} {σ : L2.St} {H : Hp} : ∀ {hs : List (Value × Option (List Nat))}, wTl K D.rt cls H hs → wCl K W0 D (hs.map tsOf) cls d σ H
  | [], h => h
  | (c, some t) :: r, h => by
    obtain ⟨b, e, h1, h2⟩ := h
    simp only [List.map_cons, tsOf, wCl, e]
    cases b with
    | true =>
      intro a _
      obtain ⟨t', et, q⟩ := h1 rfl
      cases et
      exact q
    | false => exact many_of (h2 rfl)
  | (c, none) :: r, h => by
    obtain ⟨b, e, h1, h2⟩ := h
    simp only [List.map_cons, tsOf, wCl, e]
    cases b with
    | true =>
      obtain ⟨t', et, q⟩ := h1 rfl
      cases et
    | false => exact many_of (h2 rfl)
theorem tell_gives {Ng : List Str} {x a q r0 : Str} {sg : Scope} {g : Addr} {cdg : Value} {j : Nat} {p1 p2 p3 p5 p6 p8 : Pos} {h₀ : ExceptHandler} {hds : List ExceptHandler} {hs : List (Value × Option (List Nat))} (hh : TellHs X.mg sg (h₀ :: hds) hs) (er : r0 = strOf []) (h0 : ∀ f : Addr, (L2.start Ng [V.ref f])[0]? = some (some (V.ref f))) :
    GivesTo X Ng x sg g cdg [.Try [.Expr (.Call (.Name a p1) [] [] p2) p3] (h₀ :: hds) [] [] p8, .Return (some (.Constant (.str r0) j p5)) p6] a q (TTell X.K hs) := by
  subst er
  intro f c' s H Q tl act hc h
  refine ⟨_, pss_cons (ps_clauses (Wo := W0) (X := (cxOf C8.CX0 X.prog X.w X.K X.mg X.base Ng x sg g cdg X.A X.stack s H C8.E0).nox) (l := hs.map tsOf)
      (tb := fun W D σ H => ∃ Ech : XK, (∀ cls d σ' H', Ech cls d H' → W cls d σ' H') ∧ σ[0]? = some (some (.ref f)) ∧ H c' = some (CodeO c' q) ∧ tl Ech H fun _ H1 => D.nx σ H1)
      rfl rfl (.inr fun _ _ _ _ q => q) (fun W pn xe tk _ => ?_) (hds_of _ rfl (fun e he => he) hh)) (pss_one (ps_ret pe_str)), ?_⟩
  · refine ⟨fun pins s' σ H' D I h' => ?_⟩
    obtain ⟨Ech, hW, h1, h2, h3⟩ := h'
    have hp := act W pn xe Ech p1 p2 tk hW
    have hq := pss_one (ps_expr (pos := p3) hp rfl)
    exact hq.run pins s' σ H' D I ⟨h1, h2, h3⟩
  · exact ⟨fun cls _ H' => wTl X.K Q cls H' hs, fun cls d σ' H' w => many_of w, h0 f, hc, h⟩
end
/-- a teller of the text -/
structure TellK (K : PySem.W.Frag) (mg : Str → Option Value) (C : Cn) (x : Str) (row : List (Option (List Nat))) : Prop where
  ex : ∃ (g : Addr) (pg : Arguments) (bg : List Stmt) (sg : Scope) (kV doc pm cdv ct oc : Value) (an od : Option Addr) (osl : Array (Option Value)) (Ng : List Str) (a r0 : Str) (h₀ : ExceptHandler) (hds : List ExceptHandler) (hs : List (Value × Option (List Nat))) (p1 p2 p3 p5 p6 p8 : Pos) (j : Nat),
    mg x = some (.ref g) ∧ PySem.W.keepIn K (.ref g) = true ∧ K.lookup g = some ⟨oc, od, .func (PySem.W.fnOf x x pg bg sg .none kV doc pm an cdv ct), osl⟩ ∧ PySem.W.codeIn K cdv x = true ∧ L2.Binds K (PySem.W.fnOf x x pg bg sg .none kV doc pm an cdv ct) [a] [] ∧
    FnScope Ng [a] sg ∧ Ng[0]? = some a ∧ Vis sg a ∧ (a == ("__debug__" : Str)) = false ∧ (a == ("__classdict__" : Str)) = false ∧
    bg = [.Try [.Expr (.Call (.Name a p1) [] [] p2) p3] (h₀ :: hds) [] [] p8, .Return (some (.Constant (.str r0) j p5)) p6] ∧ r0 = strOf [] ∧ TellHs mg sg (h₀ :: hds) hs ∧
    ∀ (c : Nat) (t : List Nat) (ad : Addr), row[c]? = some (some t) → C.ca c = some ad → tellOf K (.ref ad) hs = some t ∧ okS t
end G

set_option Elab.async false
set_option linter.all false
set_option autoImplicit false
set_option maxRecDepth 100000
set_option maxHeartbeats 2000000
/-! G6: results, contexts, names, small expressions. -/
namespace G
open PySem PySem.Spec PyProof.Rows L2
/-- what is wanted of a result -/
def ResG {α β : Type} (C : Cn) (Rl : List Addr → Hp → α → β → Prop) (ρ : List Addr) (H : Hp) (r : R α) (Q : β → Hp → Prop) (E : XK) : Prop :=
  match r with
  | .ok a s => ∀ ρ' H' v, Gr ρ H ρ' H' → SR C ρ' H' s → Rl ρ' H' a v → Q v H'
  | .exc c _ s => ∀ ρ' H' a d, Gr ρ H ρ' H' → SR C ρ' H' s → C.ca c = some a → E (.ref a) d H'
  | .err => False
section
variable {C : Cn} {ρ ρ' : List Addr} {H H' : Hp} {α β γ δ : Type} {Rl : List Addr → Hp → α → β → Prop} {Rl2 : List Addr → Hp → γ → δ → Prop}
theorem ResG.mono {r : R α} {Q : β → Hp → Prop} {E : XK} (h : ResG C Rl ρ H r Q E) (g : Gr ρ H ρ' H') : ResG C Rl ρ' H' r Q E := by
  cases r with
  | ok a s => exact fun ρ2 H2 v g2 S r => h ρ2 H2 v (g.trans g2) S r
  | exc c l s => exact fun ρ2 H2 a d g2 S e => h ρ2 H2 a d (g.trans g2) S e
  | err => exact h
theorem ResG.imp {r : R α} {Q Q' : β → Hp → Prop} {E : XK} (h : ResG C Rl ρ H r Q E) (k : ∀ v H, Q v H → Q' v H) : ResG C Rl ρ H r Q' E := by
  cases r with
  | ok a s => exact fun ρ2 H2 v g2 S r => k _ _ (h ρ2 H2 v g2 S r)
  | exc c l s => exact h
  | err => exact h
/-- one behind the other -/
theorem ResG.bnd {m : M α} {f : α → M γ} {s : ST} {Q : δ → Hp → Prop} {E : XK} (h : ResG C Rl2 ρ H (G.bnd m f s) Q E) :
    ResG C Rl ρ H (m s) (fun v H1 => ∃ ρ1 s1 a, Gr ρ H ρ1 H1 ∧ SR C ρ1 H1 s1 ∧ Rl ρ1 H1 a v ∧ ResG C Rl2 ρ1 H1 (f a s1) Q E) E := by
  unfold G.bnd at h
  cases e : m s with
  | ok a s1 =>
    rw [e] at h
    exact fun ρ1 H1 v g S r => ⟨ρ1, s1, a, g, S, r, h.mono g⟩
  | exc c l s1 => rw [e] at h; exact h
  | err => rw [e] at h; exact h
theorem ResG.opt {o : Option α} {s : ST} {Q : β → Hp → Prop} {E : XK} (h : ResG C Rl ρ H (G.opt o s) Q E) : ∃ a, o = some a ∧ ResG C Rl ρ H (.ok a s) Q E := by
  cases o with
  | none => exact h.elim
  | some a => exact ⟨a, rfl, h⟩
theorem ResG.rd {f : ST → Option α} {s : ST} {Q : β → Hp → Prop} {E : XK} (h : ResG C Rl ρ H (G.rd f s) Q E) : ∃ a, f s = some a ∧ ResG C Rl ρ H (.ok a s) Q E := by
  unfold G.rd at h
  cases e : f s with
  | none => rw [e] at h; exact h.elim
  | some a => rw [e] at h; exact ⟨a, rfl, h⟩
/-- a step that asks nothing of the heap -/
theorem ResG.pureO {o : Option γ} {f : γ → M α} {s : ST} {Q : β → Hp → Prop} {E : XK} (h : ResG C Rl ρ H (G.bnd (G.opt o) f s) Q E) : ∃ a, o = some a ∧ ResG C Rl ρ H (f a s) Q E := by
  cases o with
  | none => exact h.elim
  | some a => exact ⟨a, rfl, h⟩
theorem ResG.pureR {g : ST → Option γ} {f : γ → M α} {s : ST} {Q : β → Hp → Prop} {E : XK} (h : ResG C Rl ρ H (G.bnd (G.rd g) f s) Q E) : ∃ a, g s = some a ∧ ResG C Rl ρ H (f a s) Q E := by
  unfold G.bnd G.rd at h
  cases e : g s with
  | none => rw [e] at h; exact h.elim
  | some a => rw [e] at h; exact ⟨a, rfl, h⟩
theorem ResG.here {a : α} {v : β} {s : ST} {Q : β → Hp → Prop} {E : XK} (h : ResG C Rl ρ H (.ok a s) Q E) (S : SR C ρ H s) (r : Rl ρ H a v) : Q v H := h ρ H v Gr.refl S r
end
/-- the frame's slots -/
structure EnvR (C : Cn) (ρ : List Addr) (H : Hp) (env : Env) (σ : L2.St) : Prop where
  len : env.length = σ.length
  at_ : ∀ (i : Nat) (w : W), env[i]? = some (some w) → ∃ v, σ[i]? = some (some v) ∧ Rep C ρ H w v
section
variable {C : Cn} {ρ ρ' : List Addr} {H H' : Hp} {env : Env} {σ : L2.St}
theorem EnvR.mono (e : EnvR C ρ H env σ) (g : Gr ρ H ρ' H') : EnvR C ρ' H' env σ := ⟨e.len, fun i w h => by
  obtain ⟨v, h1, r⟩ := e.at_ i w h
  exact ⟨v, h1, r.mono g⟩⟩
theorem EnvR.set (e : EnvR C ρ H env σ) {i : Nat} {w : W} {v : V} (r : Rep C ρ H w v) : EnvR C ρ H (env.set i (some w)) (σ.set i (some v)) := ⟨by simp [e.len], fun j u h => by
  by_cases hj : i = j
  · subst hj
    by_cases hl : i < env.length
    · rw [List.getElem?_set_self hl] at h
      cases h
      exact ⟨v, List.getElem?_set_self (by rw [← e.len]; exact hl), r⟩
    · rw [List.getElem?_eq_none (by simpa using hl)] at h
      cases h
  · rw [List.getElem?_set_ne hj] at h
    obtain ⟨x, h1, h2⟩ := e.at_ j u h
    exact ⟨x, by rw [List.getElem?_set_ne hj]; exact h1, h2⟩⟩
theorem EnvR.wipe (e : EnvR C ρ H env σ) : ∀ is : List Nat, EnvR C ρ H (wipes env is) (wipe σ is)
  | [] => e
  | i :: is => by
    have ih := EnvR.wipe e is
    refine ⟨by simp only [wipes, L2.wipe, List.length_set]; exact ih.len, fun j u h => ?_⟩
    simp only [wipes] at h
    simp only [L2.wipe]
    by_cases hj : i = j
    · subst hj
      by_cases hl : i < (wipes env is).length
      · rw [List.getElem?_set_self hl] at h; cases h
      · rw [List.getElem?_eq_none (by simpa using hl)] at h; cases h
    · rw [List.getElem?_set_ne hj] at h
      obtain ⟨x, h1, h2⟩ := ih.at_ j u h
      exact ⟨x, by rw [List.getElem?_set_ne hj]; exact h1, h2⟩
end
abbrev RepR (C : Cn) : List Addr → Hp → W → V → Prop := fun ρ H w v => Rep C ρ H w v
abbrev RepsR (C : Cn) : List Addr → Hp → List W → List V → Prop := fun ρ H w v => Reps C ρ H w v
def BoolR : List Addr → Hp → Bool → Bool → Prop := fun _ _ a b => a = b
section
variable (C : Cn) (P : Pg) (call : Nat → List W → M W) (Wx : WX)
def tE (ir : E) : TE := fun σ H Q => ∃ ρ s env, EnvR C ρ H env σ ∧ SR C ρ H s ∧ ResG C (RepR C) ρ H (evE P call ir env s) Q (WE Wx σ)
def tA (ir : E) : TA := fun σ H Q => ∃ ρ s env, EnvR C ρ H env σ ∧ SR C ρ H s ∧ ResG C (RepsR C) ρ H (evA P call ir env s) Q (WE Wx σ)
/-- a test -/
def asB (m : M W) : M Bool := G.bnd m fun x => match x with | .bl b => ret b | _ => fail
def tT (ir : E) : TT := fun σ H Q => ∃ ρ s env, EnvR C ρ H env σ ∧ SR C ρ H s ∧ ResG C BoolR ρ H (asB (evE P call ir env) s) Q (WE Wx σ)
end
/-- a def's promise -/
def spD (C : Cn) (P : Pg) (d n : Nat) : Sp := fun vs H Q E => ∃ xi ρ s args, SR { C with xi := xi } ρ H s ∧ Reps { C with xi := xi } ρ H args vs ∧ ResG { C with xi := xi } (RepR { C with xi := xi }) ρ H (callD P d n args s) Q E
/-- the names of a program: defs and constants of the top, in the order of their numbers -/
structure Nm where
  fns : List Str
  cns : List Str
  tl : List Str
def Nm.no (N : Nm) : Nm := { N with tl := [] }
def bnames : List Str := ["len", "abs", "int", "list", "tuple", "max", "min", "sum", "all", "any", "isinstance", "range", "enumerate", "zip", "str", "bool"]
/-- where a body stands -/
structure Ct (X : Cx) (C : Cn) (P : Pg) (Nn : Nm) (d : Nat) (Wx : WX) : Prop where
  hK : X.K = C.K
  nd : X.N.Nodup
  calm : X.calm = true
  room : Room d X.A
  tk : Takes X Wx
  blt : ∀ x ∈ bnames, X.mg x = none
  fn : ∀ (k : Nat), k ≤ d → ∀ (n : Nat) (x : Str), Nn.fns[n]? = some x → ∃ f fd ps, C.fa n = some f ∧ X.mg x = some (.ref f) ∧ PySem.W.keepIn X.K (.ref f) = true ∧ Binds X.K fd ps [] ∧ FnOk X.prog X.w X.K X.mg X.base (L2.CX X.prog X.w) k f fd ps (spD C P k n)
  cn : ∀ (n : Nat) (x : Str), Nn.cns[n]? = some x → ∃ u v w, X.mg x = some u ∧ RelV v u ∧ P.consts[n]? = some w ∧ ∀ xi ρ H, Rep { C with xi := xi } ρ H w v
  lm : ∀ (n : Nat) (x : Str), Nn.tl[n]? = some x → (∃ row, P.told[n]? = some row ∧ TellK X.K X.mg C x row) ∧
    ∃ c Pt, X.env.code = .ref c ∧ LamX.TabB X.base X.mg c Pt ∧ (Pt, X.env.qual ++ "<lambda>") ∈ C.T ∧ ∀ p ∈ C.T, p.1 = Pt → p.2 = X.env.qual ++ "<lambda>"
/-- the scope as the checker reads it -/
structure Sc (X : Cx) (sc : Scope) (cl : Bool) : Prop where
  cf : ∀ x, sc.names.lookup x = some .cell ∨ sc.names.lookup x = some .free → X.env.scope.names.lookup x = some .cell ∨ X.env.scope.names.lookup x = some .free
  st : ∀ x, (sc.names.lookup x = some .local ∨ (cl = true ∧ sc.names.lookup x = some .cell)) → Loc X.env.scope x ∧ (X.fn x = true ∨ X.env.scope.names.lookup x = some .local)
  vis : ∀ x, sc.names.lookup x = some .local ∨ sc.names.lookup x = some .cell ∨ sc.names.lookup x = some .free → Vis X.env.scope x
  gl : ∀ x, sc.names.lookup x = some .globalImplicit → Gl X x
  loc : ∀ x, sc.names.lookup x = some .local → X.env.scope.names.lookup x = some .local
section
variable {X : Cx} {C : Cn} {P : Pg} {Nn : Nm} {d : Nat} {Wx : WX}
theorem _root_.L2.PE.imp {e : Expr} {t t' : TE} (h : PE X e t) (k : ∀ σ H Q, t' σ H Q → t σ H Q) : PE X e t' := ⟨fun pins s σ H Q I q => h.run pins s σ H Q I (k σ H Q q)⟩
theorem _root_.L2.PT.imp {e : Expr} {t t' : TT} (h : PT X e t) (k : ∀ σ H Q, t' σ H Q → t σ H Q) : PT X e t' := ⟨fun pins s σ H Q I q => h.run pins s σ H Q I (k σ H Q q)⟩
theorem _root_.L2.PW.imp {e : Expr} {t t' : TT} (h : PW X e t) (k : ∀ σ H Q, t' σ H Q → t σ H Q) : PW X e t' := ⟨fun wh pins s σ H Q I q => h.run wh pins s σ H Q I (k σ H Q q)⟩
theorem _root_.L2.PA.imp {es : List Expr} {t t' : TA} (h : PA X es t) (k : ∀ σ H Q, t' σ H Q → t σ H Q) : PA X es t' := ⟨fun pos pins s σ H Q I q => h.run pos pins s σ H Q I (k σ H Q q)⟩
variable {call : Nat → List W → M W}
/-- an expression ahead of a rest -/
theorem tE.bnd {a : E} {γ δ : Type} {Rl2 : List Addr → Hp → γ → δ → Prop} {f : W → M γ} {ρ : List Addr} {H : Hp} {s : ST} {env : Env} {σ : L2.St} {Q : δ → Hp → Prop} {E : XK} {K : V → Hp → Prop} (eR : EnvR C ρ H env σ) (S : SR C ρ H s)
    (hE : E = WE Wx σ) (h : ResG C Rl2 ρ H (G.bnd (evE P call a env) f s) Q E)
    (k : ∀ ρ1 H1 s1 x v, Gr ρ H ρ1 H1 → EnvR C ρ1 H1 env σ → SR C ρ1 H1 s1 → Rep C ρ1 H1 x v → ResG C Rl2 ρ1 H1 (f x s1) Q E → K v H1) : tE C P call Wx a σ H K := by
  subst hE
  refine ⟨ρ, s, env, eR, S, ?_⟩
  refine (ResG.bnd (Rl := RepR C) h).imp fun v H1 ⟨ρ1, s1, x, g, S1, r, q⟩ => k ρ1 H1 s1 x v g (eR.mono g) S1 r q
theorem tA.bnd {a : E} {γ δ : Type} {Rl2 : List Addr → Hp → γ → δ → Prop} {f : List W → M γ} {ρ : List Addr} {H : Hp} {s : ST} {env : Env} {σ : L2.St} {Q : δ → Hp → Prop} {E : XK} {K : List V → Hp → Prop} (eR : EnvR C ρ H env σ) (S : SR C ρ H s)
    (hE : E = WE Wx σ) (h : ResG C Rl2 ρ H (G.bnd (evA P call a env) f s) Q E)
    (k : ∀ ρ1 H1 s1 x v, Gr ρ H ρ1 H1 → EnvR C ρ1 H1 env σ → SR C ρ1 H1 s1 → Reps C ρ1 H1 x v → ResG C Rl2 ρ1 H1 (f x s1) Q E → K v H1) : tA C P call Wx a σ H K := by
  subst hE
  refine ⟨ρ, s, env, eR, S, ?_⟩
  refine (ResG.bnd (Rl := RepsR C) h).imp fun v H1 ⟨ρ1, s1, x, g, S1, r, q⟩ => k ρ1 H1 s1 x v g (eR.mono g) S1 r q
/-! each construct -/
theorem s_var {i : Nat} {x : Str} {pos : Pos} (hN : X.N[i]? = some x) (hv : Vis X.env.scope x) (hd : (x == ("__debug__" : Str)) = false) (hcd : (x == ("__classdict__" : Str)) = false) : PE X (.Name x pos) (tE C P call Wx (.var i)) := by
  refine (pe_var hN hv hd hcd).imp fun σ H Q ⟨ρ, s, env, eR, S, h⟩ => ?_
  simp only [evE] at h
  obtain ⟨w, e, h⟩ := h.opt
  split at e
  · rename_i w' e'
    cases e
    obtain ⟨v, e2, r⟩ := eR.at_ i w e'
    exact ⟨v, e2, h.here S r⟩
  · cases e
theorem s_const {w : W} {v : V} {c : Expr} (hr : ∀ ρ H, Rep C ρ H w v) (hc : PE X c (tC v)) : PE X c (tE C P call Wx (.k w)) := by
  refine hc.imp fun σ H Q ⟨ρ, s, env, eR, S, h⟩ => ?_
  simp only [evE] at h
  exact h.here S (hr ρ H)
theorem s_glob {n : Nat} {x : Str} {pos : Pos} (ct : Ct X C P Nn d Wx) (hn : Nn.cns[n]? = some x) (hg : Gl X x) (hd : (x == ("__debug__" : Str)) = false) : PE X (.Name x pos) (tE C P call Wx (.glob n)) := by
  obtain ⟨u, v, w, e1, r, e2, k⟩ := ct.cn n x hn
  refine (pe_glob hg e1 r hd).imp fun σ H Q ⟨ρ, s, env, eR, S, h⟩ => ?_
  simp only [evE] at h
  obtain ⟨w', e, h⟩ := h.opt
  rw [e2] at e; cases e
  exact h.here S (k C.xi ρ H)
theorem s_bin {op : Bop} {a b : E} {ea eb : Expr} {pos : Pos} (ct : Ct X C P Nn d Wx) (ha : PE X ea (tE C P call Wx a)) (hb : PE X eb (tE C P call Wx b)) : PE X (.BinOp ea (bopO op) eb pos) (tE C P call Wx (.bin op a b)) := by
  refine (pe_op (op_bin ct.hK op) ha hb).imp fun σ H Q ⟨ρ, s, env, eR, S, h⟩ => ?_
  simp only [evE] at h
  refine tE.bnd eR S rfl h fun ρ1 H1 s1 x v g1 eR1 S1 r1 h1 => ?_
  refine tE.bnd eR1 S1 rfl h1 fun ρ2 H2 s2 y u g2 eR2 S2 r2 h2 => ?_
  obtain ⟨w, e, h2⟩ := h2.rd
  exact ⟨ρ2, s2, x, y, w, S2, r1.mono g2, r2, e, h2⟩
theorem s_neg {a : E} {ea : Expr} {pos : Pos} (ha : PE X ea (tE C P call Wx a)) : PE X (.UnaryOp .USub ea pos) (tE C P call Wx (.neg a)) := by
  refine (pe_un un_neg ha).imp fun σ H Q ⟨ρ, s, env, eR, S, h⟩ => ?_
  simp only [evE] at h
  refine tE.bnd eR S rfl h fun ρ1 H1 s1 x v g1 eR1 S1 r1 h1 => ?_
  cases x <;> try exact h1.elim
  exact ⟨_, r1.int, h1.here S1 Rep.mkI⟩
theorem i_cmp {op : Cop} {a b : E} {σ : L2.St} {H : Hp} {Q : VK} (h : tE C P call Wx (.cmp op a b) σ H Q) : tOp (rCmp C (cmpop op)) (tE C P call Wx a) (tE C P call Wx b) σ H Q := by
  obtain ⟨ρ, s, env, eR, S, h⟩ := h
  simp only [evE] at h
  refine tE.bnd eR S rfl h fun ρ1 H1 s1 x v g1 eR1 S1 r1 h1 => ?_
  refine tE.bnd eR1 S1 rfl h1 fun ρ2 H2 s2 y u g2 eR2 S2 r2 h2 => ?_
  obtain ⟨k, e, h2⟩ := h2.pureR
  exact ⟨ρ2, s2, x, y, k, S2, r1.mono g2, r2, e, h2.here S2 Rep.mkB⟩
/-- a test's value -/
theorem tT.val {a : E} {σ : L2.St} {H : Hp} {Q : Bool → Hp → Prop} (h : tT C P call Wx a σ H Q) : tE C P call Wx a σ H fun x H' => ∃ k, x = .bl k ∧ Q k H' := by
  obtain ⟨ρ, s, env, eR, S, h⟩ := h
  unfold asB at h
  exact tE.bnd eR S rfl h fun ρ1 H1 s1 x v g1 eR1 S1 r1 h1 => by
    cases x <;> try exact h1.elim
    exact ⟨_, r1.bl, h1.here S1 rfl⟩
theorem s_cmp {op : Cop} {a b : E} {ea eb : Expr} {pos : Pos} (ct : Ct X C P Nn d Wx) (ha : PE X ea (tE C P call Wx a)) (hb : PE X eb (tE C P call Wx b)) (hm : behindInMarks (copO op) eb = false) :
    PE X (.Compare ea [copO op] [eb] pos) (tE C P call Wx (.cmp op a b)) ∧ PT X (.Compare ea [copO op] [eb] pos) (tT C P call Wx (.cmp op a b)) := by
  have hu := ct.room.units
  exact ⟨(pe_cmpR (op_cmp ct.hK hu op) ha hb hm).imp fun σ H Q h => i_cmp h, (pt_cmpR (op_cmp ct.hK hu op) ha hb hm).imp fun σ H Q h => i_cmp h.val⟩
theorem i_chain {op op' : Cop} {a b c : E} {σ : L2.St} {H : Hp} {Q : VK} (h : tE C P call Wx (.chain op op' a b c) σ H Q) : tChain (rCmp C (cmpop op)) (rCmp C (cmpop op')) (tE C P call Wx a) (tE C P call Wx b) (tE C P call Wx c) σ H Q := by
  obtain ⟨ρ, s, env, eR, S, h⟩ := h
  simp only [evE] at h
  refine tE.bnd eR S rfl h fun ρ1 H1 s1 x v g1 eR1 S1 r1 h1 => ?_
  refine tE.bnd eR1 S1 rfl h1 fun ρ2 H2 s2 y u g2 eR2 S2 r2 h2 => ?_
  obtain ⟨k, e, h2⟩ := h2.pureR
  refine ⟨ρ2, s2, x, y, k, S2, r1.mono g2, r2, e, k, rfl, ?_⟩
  cases k with
  | true =>
    rw [if_pos rfl] at h2 ⊢
    refine tE.bnd eR2 S2 rfl h2 fun ρ3 H3 s3 z w g3 eR3 S3 r3 h3 => ?_
    obtain ⟨k', e', h3⟩ := h3.pureR
    exact ⟨ρ3, s3, y, z, k', S3, r2.mono g3, r3, e', h3.here S3 Rep.mkB⟩
  | false =>
    rw [if_neg Bool.false_ne_true] at h2 ⊢
    exact h2.here S2 Rep.mkB
theorem s_chain {op op' : Cop} {a b c : E} {ea eb ec : Expr} {pos : Pos} (ct : Ct X C P Nn d Wx) (ha : PE X ea (tE C P call Wx a)) (hb : PE X eb (tE C P call Wx b)) (hc : PE X ec (tE C P call Wx c)) (hm : lastMarks [copO op, copO op'] [eb, ec] = false) :
    PE X (.Compare ea [copO op, copO op'] [eb, ec] pos) (tE C P call Wx (.chain op op' a b c)) ∧ PT X (.Compare ea [copO op, copO op'] [eb, ec] pos) (tT C P call Wx (.chain op op' a b c)) := by
  have hu := ct.room.units
  exact ⟨(pe_chain (op_cmp ct.hK hu op) (op_cmp ct.hK hu op') ha hb hc hm).imp fun σ H Q h => i_chain h, (pt_chain (op_cmp ct.hK hu op) (op_cmp ct.hK hu op') ha hb hc hm).imp fun σ H Q h => i_chain h.val⟩
theorem bnd_assoc {α β γ : Type} (m : M α) (f : α → M β) (g : β → M γ) : G.bnd (G.bnd m f) g = G.bnd m fun x => G.bnd (f x) g := by
  funext s
  unfold G.bnd
  cases m s <;> rfl
/-- a test ahead of a rest -/
theorem tT.bnd {a : E} {γ δ : Type} {Rl2 : List Addr → Hp → γ → δ → Prop} {f : W → M γ} {ρ : List Addr} {H : Hp} {s : ST} {env : Env} {σ : L2.St} {Q : δ → Hp → Prop} {E : XK} {K : Bool → Hp → Prop} (eR : EnvR C ρ H env σ) (S : SR C ρ H s)
    (hE : E = WE Wx σ) (h : ResG C Rl2 ρ H (G.bnd (evE P call a env) f s) Q E) (hf : ∀ x s, (∀ b, x ≠ .bl b) → f x s = .err)
    (k : ∀ ρ1 H1 s1 b, Gr ρ H ρ1 H1 → EnvR C ρ1 H1 env σ → SR C ρ1 H1 s1 → ResG C Rl2 ρ1 H1 (f (.bl b) s1) Q E → K b H1) : tT C P call Wx a σ H K := by
  subst hE
  refine ⟨ρ, s, env, eR, S, ?_⟩
  unfold asB G.bnd
  unfold G.bnd at h
  cases e : evE P call a env s with
  | ok x s1 =>
    rw [e] at h
    have bad : (∀ b, x ≠ .bl b) → False := fun hx => by
      have := hf x s1 hx
      simp only [this] at h
      exact h
    cases x with
    | bl b =>
      intro ρ1 H1 v g S1 r
      have r' : b = v := r
      subst r'
      exact k ρ1 H1 s1 b g (eR.mono g) S1 (ResG.mono h g)
    | _ => exact (bad (fun b q => by cases q)).elim
  | exc c l s1 => rw [e] at h; exact h
  | err => rw [e] at h; exact h
theorem s_and {a b : E} {ea eb : Expr} {rest : List Expr} {pos : Pos} (ha : PE X ea (tE C P call Wx a)) (ha' : PT X ea (tT C P call Wx a)) (hb : PE X (.BoolOp .And (eb :: rest) pos) (tE C P call Wx b)) (hb' : PW X (.BoolOp .And (eb :: rest) pos) (tT C P call Wx b)) :
    PE X (.BoolOp .And (ea :: eb :: rest) pos) (tE C P call Wx (.and a b)) ∧ PW X (.BoolOp .And (ea :: eb :: rest) pos) (tT C P call Wx (.and a b)) := by
  refine ⟨(pe_and ha hb).imp fun σ H Q ⟨ρ, s, env, eR, S, h⟩ => ?_, (pw_and ha' hb').imp fun σ H Q ⟨ρ, s, env, eR, S, h⟩ => ?_⟩
  · simp only [evE] at h
    refine tE.bnd eR S rfl h fun ρ1 H1 s1 x v g1 eR1 S1 r1 h1 => ?_
    cases x <;> try exact h1.elim
    rename_i k
    refine ⟨k, r1.bl, ?_⟩
    cases k with
    | true => rw [if_pos rfl]; exact ⟨ρ1, s1, env, eR1, S1, h1⟩
    | false => rw [if_neg Bool.false_ne_true]; exact h1.here S1 Rep.mkB
  · unfold asB at h
    simp only [evE] at h
    rw [bnd_assoc] at h
    refine tT.bnd eR S rfl h (fun x s hx => ?_) fun ρ1 H1 s1 k g1 eR1 S1 h1 => ?_
    · cases x <;> first | rfl | exact (hx _ rfl).elim
    · cases k with
      | true => rw [if_pos rfl]; exact ⟨ρ1, s1, env, eR1, S1, h1⟩
      | false => rw [if_neg Bool.false_ne_true]; exact h1.here S1 rfl
theorem s_or {a b : E} {ea eb : Expr} {rest : List Expr} {pos : Pos} (ha : PE X ea (tE C P call Wx a)) (ha' : PT X ea (tT C P call Wx a)) (hb : PE X (.BoolOp .Or (eb :: rest) pos) (tE C P call Wx b)) (hb' : PW X (.BoolOp .Or (eb :: rest) pos) (tT C P call Wx b)) :
    PE X (.BoolOp .Or (ea :: eb :: rest) pos) (tE C P call Wx (.or a b)) ∧ PW X (.BoolOp .Or (ea :: eb :: rest) pos) (tT C P call Wx (.or a b)) := by
  refine ⟨(pe_or ha hb).imp fun σ H Q ⟨ρ, s, env, eR, S, h⟩ => ?_, (pw_or ha' hb').imp fun σ H Q ⟨ρ, s, env, eR, S, h⟩ => ?_⟩
  · simp only [evE] at h
    refine tE.bnd eR S rfl h fun ρ1 H1 s1 x v g1 eR1 S1 r1 h1 => ?_
    cases x <;> try exact h1.elim
    rename_i k
    refine ⟨k, r1.bl, ?_⟩
    cases k with
    | true => rw [if_pos rfl]; exact h1.here S1 Rep.mkB
    | false => rw [if_neg Bool.false_ne_true]; exact ⟨ρ1, s1, env, eR1, S1, h1⟩
  · unfold asB at h
    simp only [evE] at h
    rw [bnd_assoc] at h
    refine tT.bnd eR S rfl h (fun x s hx => ?_) fun ρ1 H1 s1 k g1 eR1 S1 h1 => ?_
    · cases x <;> first | rfl | exact (hx _ rfl).elim
    · cases k with
      | true => rw [if_pos rfl]; exact h1.here S1 rfl
      | false => rw [if_neg Bool.false_ne_true]; exact ⟨ρ1, s1, env, eR1, S1, h1⟩
theorem s_not {a : E} {ea : Expr} {pos : Pos} (ha : PE X ea (tE C P call Wx a)) (ha' : PT X ea (tT C P call Wx a)) :
    PE X (.UnaryOp .Not ea pos) (tE C P call Wx (.not a)) ∧ PT X (.UnaryOp .Not ea pos) (tT C P call Wx (.not a)) := by
  refine ⟨(pe_not ha).imp fun σ H Q ⟨ρ, s, env, eR, S, h⟩ => ?_, (pt_not ha').imp fun σ H Q ⟨ρ, s, env, eR, S, h⟩ => ?_⟩
  · simp only [evE] at h
    refine tE.bnd eR S rfl h fun ρ1 H1 s1 x v g1 eR1 S1 r1 h1 => ?_
    cases x <;> try exact h1.elim
    exact ⟨_, r1.bl, h1.here S1 Rep.mkB⟩
  · unfold asB at h
    simp only [evE] at h
    rw [bnd_assoc] at h
    refine tT.bnd eR S rfl h (fun x s hx => ?_) fun ρ1 H1 s1 k g1 eR1 S1 h1 => ?_
    · cases x <;> first | rfl | exact (hx _ rfl).elim
    · exact h1.here S1 rfl
theorem s_ife {c a b : E} {ec ea eb : Expr} {pos : Pos} (hc : PT X ec (tT C P call Wx c)) (ha : PE X ea (tE C P call Wx a)) (hb : PE X eb (tE C P call Wx b)) : PE X (.IfExp ec ea eb pos) (tE C P call Wx (.ife c a b)) := by
  refine (pe_ifExp hc ha hb).imp fun σ H Q ⟨ρ, s, env, eR, S, h⟩ => ?_
  simp only [evE] at h
  refine tT.bnd eR S rfl h (fun x s hx => ?_) fun ρ1 H1 s1 k g1 eR1 S1 h1 => ?_
  · cases x <;> first | rfl | exact (hx _ rfl).elim
  · cases k with
    | true => rw [if_pos rfl]; exact ⟨ρ1, s1, env, eR1, S1, h1⟩
    | false => rw [if_neg Bool.false_ne_true]; exact ⟨ρ1, s1, env, eR1, S1, h1⟩
/-! rows -/
theorem s_nil : PA X [] (tA C P call Wx .nil) := by
  refine pa_nil.imp fun σ H Q ⟨ρ, s, env, eR, S, h⟩ => ?_
  simp only [evA] at h
  exact h.here (v := []) S (by show Reps C ρ H [] []; simp only [Reps])
theorem s_cons {a b : E} {ea : Expr} {es : List Expr} (ha : PE X ea (tE C P call Wx a)) (hb : PA X es (tA C P call Wx b)) (hs : starEach (ea :: es) X.env = (false, eval ea X.env) :: starEach es X.env) : PA X (ea :: es) (tA C P call Wx (.cons a b)) := by
  refine (pa_cons ha hb hs).imp fun σ H Q ⟨ρ, s, env, eR, S, h⟩ => ?_
  simp only [evA] at h
  refine tE.bnd eR S rfl h fun ρ1 H1 s1 x v g1 eR1 S1 r1 h1 => ?_
  refine tA.bnd eR1 S1 rfl h1 fun ρ2 H2 s2 y u g2 eR2 S2 r2 h2 => ?_
  exact h2.here S2 (Reps.mk (r1.mono g2) r2)
theorem ResG.fits {α β : Type} {Rl : List Addr → Hp → α → β → Prop} {ρ : List Addr} {H : Hp} {γ : Type} {m : M (List γ)} {f : List γ → M α} {s : ST} {Q : β → Hp → Prop} {E : XK} (h : ResG C Rl ρ H (G.bnd (G.fits m) f s) Q E) :
    ResG C Rl ρ H (G.bnd m (fun xs => if xs.length ≤ line then f xs else fail) s) Q E := by
  unfold G.fits at h
  rw [bnd_assoc] at h
  have e : (fun xs : List γ => G.bnd (if xs.length ≤ line then ret xs else fail) f) = fun xs => if xs.length ≤ line then f xs else fail := by
    funext xs
    split
    · funext s; rfl
    · funext s; rfl
  rw [e] at h
  exact h
theorem s_tup {l : E} {es : List Expr} {k : Nat} {pos : Pos} (hl : PA X es (tA C P call Wx l)) : PE X (.Tuple es k pos) (tE C P call Wx (.tup l)) := by
  refine (pe_tup hl).imp fun σ H Q ⟨ρ, s, env, eR, S, h⟩ => ?_
  simp only [evE] at h
  refine tA.bnd eR S rfl h.fits fun ρ1 H1 s1 x v g1 eR1 S1 r1 h1 => ?_
  split at h1
  · rename_i hl
    exact ⟨by rw [← r1.length, ← line_eq]; exact hl, OkP.tup (fun ρ' H' v g S r => h1 ρ' H' v g S r) S1 r1⟩
  · exact h1.elim
theorem s_lst {l : E} {es : List Expr} {pos : Pos} (hl : PA X es (tA C P call Wx l)) : PE X (.List es pos) (tE C P call Wx (.lst l)) := by
  refine (pe_lst hl).imp fun σ H Q ⟨ρ, s, env, eR, S, h⟩ => ?_
  simp only [evE] at h
  refine tA.bnd eR S rfl h.fits fun ρ1 H1 s1 x v g1 eR1 S1 r1 h1 => ?_
  split at h1
  · rename_i hl
    exact ⟨by rw [← r1.length, ← line_eq]; exact hl, OkP.lst (fun ρ' H' v g S r => h1 ρ' H' v g S r) S1 r1⟩
  · exact h1.elim
/-- a new list of the store -/
theorem SR.push {ρ : List Addr} {H : Hp} {s : ST} {p : Addr} {ws : List W} {vs : List V} (S : SR C ρ H s) (hn : H p = none) (r : Reps C ρ H ws vs) :
    Gr ρ H (ρ ++ [p]) (upd H p (.lst vs)) ∧ SR C (ρ ++ [p]) (upd H p (.lst vs)) (s ++ [ws]) ∧ Rep C (ρ ++ [p]) (upd H p (.lst vs)) (.ref s.length) (.ref p) := by
  have g : Gr ρ H (ρ ++ [p]) (upd H p (.lst vs)) := by
    obtain ⟨_, k, l⟩ := Gr.new (ρ := ρ) (o := .lst vs) hn
    exact ⟨⟨[p], rfl, fun q hq => List.mem_singleton.mp hq ▸ Fre.of hn⟩, k, l⟩
  refine ⟨g, ⟨fun q hq => ⟨fun hm => ?_, ?_⟩, tabs_new S.tb hn, by simp [S.len], ?_, fun n xs e => ?_⟩, ?_⟩
  · rcases List.mem_append.mp hm with hm | hm
    · exact (S.xl q hq).1 hm
    · rw [List.mem_singleton.mp hm] at hq
      obtain ⟨_, zs, ez⟩ := S.xl p hq
      rw [hn] at ez; cases ez
  · obtain ⟨_, zs, ez⟩ := S.xl q hq
    exact ⟨zs, by rw [upd_ne (ne_of_none ez hn)]; exact ez⟩
  · rw [List.nodup_append]
    exact ⟨S.nd, by simp, fun a ha b hb => by
      have : b = p := by simpa using hb
      subst this
      intro e; subst e
      exact S.fresh hn ha⟩
  · by_cases hl : n < s.length
    · rw [List.getElem?_append_left hl] at e
      obtain ⟨q, us, e1, e2, r2⟩ := S.at_ n xs e
      refine ⟨q, us, ?_, ?_, Reps.mono g _ _ r2⟩
      · rw [List.getElem?_append_left (by rw [S.len]; exact hl)]; exact e1
      · rw [upd_ne (ne_of_none e2 hn)]; exact e2
    · have hn' : n = s.length := by
        have := (List.getElem?_eq_some_iff.mp e).1
        simp at this
        omega
      subst hn'
      rw [List.getElem?_append_right (Nat.le_refl _)] at e
      simp at e; subst e
      refine ⟨p, vs, ?_, upd_same, Reps.mono g _ _ r⟩
      rw [← S.len, List.getElem?_append_right (Nat.le_refl _)]
      simp
  · simp only [Rep]
    refine ⟨p, ?_, rfl⟩
    rw [← S.len, List.getElem?_append_right (Nat.le_refl _)]
    simp
theorem s_mlst {l : E} {es : List Expr} {pos : Pos} (hl : PA X es (tA C P call Wx l)) : PE X (.List es pos) (tE C P call Wx (.mlst l)) := by
  refine (pe_lst hl).imp fun σ H Q ⟨ρ, s, env, eR, S, h⟩ => ?_
  simp only [evE] at h
  refine tA.bnd eR S rfl h.fits fun ρ1 H1 s1 x v g1 eR1 S1 r1 h1 => ?_
  split at h1
  · rename_i hl
    refine ⟨by rw [← r1.length, ← line_eq]; exact hl, fun p hn => ?_⟩
    obtain ⟨g, S', r'⟩ := S1.push hn r1
    exact h1 _ _ _ g S' r'
  · exact h1.elim
/-! items, slices, calls -/
theorem PE.two {e : Expr} {t t1 t2 : TE} (h1 : PE X e t1) (h2 : PE X e t2) (k : ∀ σ H Q, t σ H Q → t1 σ H Q ∨ t2 σ H Q) : PE X e t := ⟨fun pins s σ H Q I q => by
  rcases k σ H Q q with h | h
  · exact h1.run pins s σ H Q I h
  · exact h2.run pins s σ H Q I h⟩
theorem look_val : ∀ {ks : List (List Nat)} {ws : List W} {kvs : List (Key × V)} {k : List Nat} {w : W} {ρ : List Addr} {H : Hp}, kvs.map (·.1) = ks.map (fun l => Sum.inr (strOf l)) → Reps C ρ H ws (kvs.map (·.2)) → look k ks ws = some w → ∃ v, valV kvs (Sum.inr (strOf k) : Key) = some v ∧ Rep C ρ H w v
  | [], _, _, _, _, _, _, _, _, e => by simp [look] at e
  | _ :: _, [], _, _, _, _, _, _, _, e => by simp [look] at e
  | a :: ks, x :: ws, [], _, _, _, _, h, _, _ => by simp at h
  | a :: ks, x :: ws, (k0, v0) :: kvs, k, w, ρ, H, h, r, e => by
    simp only [List.map_cons, List.cons.injEq] at h
    simp only [List.map_cons] at r
    obtain ⟨v, us, e0, r1, r2⟩ := r.cons'
    cases e0
    simp only [look] at e
    by_cases hk : a = k
    · rw [if_pos hk] at e
      cases e
      subst hk
      exact ⟨v0, valV_pos h.1, r1⟩
    · rw [if_neg hk] at e
      obtain ⟨v, e1, r3⟩ := look_val h.2 r2 e
      refine ⟨v, ?_, r3⟩
      rw [valV_neg (p := (k0, v0)) (fun q => ?_)]
      · exact e1
      · rw [show (k0, v0).1 = k0 from rfl, h.1] at q
        have : strOf a = strOf k := Sum.inr.inj q
        simp only [strOf, Str.mk.injEq] at this
        exact hk (by simpa using congrArg Array.toList this)
def plainIx : Expr → Bool
  | .Slice .. => false
  | _ => true
theorem s_ix {a b : E} {ea eb : Expr} {pos : Pos} (ct : Ct X C P Nn d Wx) (ha : PE X ea (tE C P call Wx a)) (hb : PE X eb (tE C P call Wx b)) (hi : PlainIx eb) (hs : NoSl eb) : PE X (.Subscript ea eb pos) (tE C P call Wx (.ix a b)) := by
  have hu : X.A.units + 1 < cLine := by have := ct.room.units; omega
  refine PE.two (pe_ix (it_all ct.hK) ha hb hi) (pe_dget hu ha hb hs) fun σ H Q ⟨ρ, s, env, eR, S, h⟩ => ?_
  simp only [evE] at h
  cases ex : evE P call a env s with
  | err => unfold G.bnd at h; rw [ex] at h; exact h.elim
  | exc c l s1 =>
    refine .inl ⟨ρ, s, env, eR, S, ?_⟩
    unfold G.bnd at h
    rw [ex] at h ⊢
    exact h
  | ok x0 s0 =>
    by_cases hd : ∃ ks vs, x0 = .dct ks vs
    · obtain ⟨ks, vs, rfl⟩ := hd
      refine .inr ?_
      have h' : ResG C (RepR C) ρ H (G.bnd (evE P call a env) (fun x => match x with | .dct ks vs => G.bnd (evE P call b env) fun y => rd (item (.dct ks vs) y) | _ => fail) s) Q (WE Wx σ) := by
        unfold G.bnd at h ⊢
        rw [ex] at h ⊢
        exact h
      refine tE.bnd eR S rfl h' fun ρ1 H1 s1 x v g1 eR1 S1 r1 h1 => ?_
      cases x <;> try exact h1.elim
      rename_i ks vs
      refine tE.bnd eR1 S1 rfl h1 fun ρ2 H2 s2 y u g2 eR2 S2 r2 h2 => ?_
      obtain ⟨w, e, h3⟩ := h2.rd
      cases y <;> try (simp [item, seqI] at e; done)
      simp only [item] at e
      have r3 := r1.mono g2
      simp only [Rep] at r3
      obtain ⟨p, kvs, rfl, hp, hH, hk, hv⟩ := r3
      obtain ⟨z, e4, r4⟩ := look_val hk hv e
      rw [r2.str.1]
      exact ⟨p, z, rfl, e4 ▸ DGet.k (k := Sum.inr _) hH, h3.here S2 r4⟩
    · refine .inl ?_
      have h' : ResG C (RepR C) ρ H (G.bnd (evE P call a env) (fun x => match x with | .dct ks vs => fail | x => G.bnd (evE P call b env) fun y => rd (item x y)) s) Q (WE Wx σ) := by
        unfold G.bnd at h ⊢
        rw [ex] at h ⊢
        cases x0 <;> first | exact h | exact (hd ⟨_, _, rfl⟩).elim
      refine tE.bnd eR S rfl h' fun ρ1 H1 s1 x v g1 eR1 S1 r1 h1 => ?_
      have nd : ∀ ks vs, x ≠ .dct ks vs := fun ks vs q => by subst q; exact h1.elim
      have h1' : ResG C (RepR C) ρ1 H1 (G.bnd (evE P call b env) (fun y => rd (item x y)) s1) Q (WE Wx σ) := by
        cases x <;> first | exact h1 | exact (nd _ _ rfl).elim
      refine tE.bnd eR1 S1 rfl h1' fun ρ2 H2 s2 y u g2 eR2 S2 r2 h2 => ?_
      obtain ⟨w, e, h2⟩ := h2.rd
      exact ⟨ρ2, s2, x, y, w, S2, r1.mono g2, r2, nd, e, h2⟩
/-- a bound of a slice -/
def OptR : List Addr → Hp → Option Int → Option Int → Prop := fun _ _ a b => a = b
def tO (C : Cn) (P : Pg) (call : Nat → List W → M W) (Wx : WX) (a : E) : TO := fun σ H Q => ∃ ρ s env, EnvR C ρ H env σ ∧ SR C ρ H s ∧ ResG C OptR ρ H (evO P call a env s) Q (WE Wx σ)
theorem _root_.L2.PO.imp {e : Option Expr} {t t' : TO} (h : PO X e t) (k : ∀ σ H Q, t' σ H Q → t σ H Q) : PO X e t' := ⟨fun pins s σ H Q I q => h.run pins s σ H Q I (k σ H Q q)⟩
theorem s_no : PO X none (tO C P call Wx .no) := by
  refine po_none.imp fun σ H Q ⟨ρ, s, env, eR, S, h⟩ => ?_
  simp only [evO] at h
  exact ResG.here (a := none) (v := none) (s := s) h S rfl
theorem s_some {a : E} {ea : Expr} (ha : PE X ea (tE C P call Wx a)) : PO X (some ea) (tO C P call Wx (.itr a)) := by
  refine (po_some ha).imp fun σ H Q ⟨ρ, s, env, eR, S, h⟩ => ?_
  simp only [evO] at h
  refine tE.bnd eR S rfl h fun ρ1 H1 s1 x v g1 eR1 S1 r1 h1 => ?_
  cases x <;> try exact h1.elim
  rename_i i
  exact ⟨i, r1.int, ResG.here (a := some i) (v := some i) h1 S1 rfl⟩
theorem s_sl {a lo hi : E} {ea : Expr} {l h : Option Expr} {p2 pos : Pos} (ct : Ct X C P Nn d Wx) (ha : PE X ea (tE C P call Wx a)) (hl : PO X l (tO C P call Wx lo)) (hh : PO X h (tO C P call Wx hi)) : PE X (.Subscript ea (.Slice l h none p2) pos) (tE C P call Wx (.sl a lo hi)) := by
  refine (pe_slice (sl_all ct.hK) ha hl hh).imp fun σ H Q ⟨ρ, s, env, eR, S, h⟩ => ?_
  simp only [evE] at h
  refine tE.bnd eR S rfl h fun ρ1 H1 s1 x v g1 eR1 S1 r1 h1 => ?_
  refine ⟨ρ1, s1, env, eR1, S1, (ResG.bnd (Rl := OptR) h1).imp fun l H2 ⟨ρ2, s2, l', g2, S2, q, h2⟩ => ?_⟩
  have q : l' = l := q
  subst q
  refine ⟨ρ2, s2, env, eR1.mono g2, S2, (ResG.bnd (Rl := OptR) h2).imp fun h H3 ⟨ρ3, s3, h', g3, S3, q, h3⟩ => ?_⟩
  have q : h' = h := q
  subst q
  obtain ⟨w, e, h3⟩ := h3.rd
  exact ⟨ρ3, s3, x, w, S3, (r1.mono g2).mono g3, e, h3⟩
theorem s_rev {a : E} {ea : Expr} {k : Nat} {p1 p2 p3 pos : Pos} (ha : PE X ea (tE C P call Wx a)) : PE X (.Subscript ea (.Slice none none (some (.UnaryOp .USub (.Constant (.int 1) k p1) p2)) p3) pos) (tE C P call Wx (.rev a)) := by
  refine (pe_revL ha).imp fun σ H Q ⟨ρ, s, env, eR, S, h⟩ => ?_
  simp only [evE] at h
  refine tE.bnd eR S rfl h fun ρ1 H1 s1 x v g1 eR1 S1 r1 h1 => ?_
  obtain ⟨xs, e, h1⟩ := h1.pureR
  obtain ⟨p, vs, rfl, q, r⟩ := seqL_rep S1 r1 e
  exact ⟨p, vs, rfl, SqL.of q, OkP.lst (fun ρ' H' v g S r => h1 ρ' H' v g S r) S1 r.rev⟩
theorem s_call {n : Nat} {l : E} {x : Str} {e : Expr} {es : List Expr} {p pos : Pos} (ct : Ct X C P Nn d Wx) (hn : Nn.fns[n]? = some x) (hg : Gl X x) (hdb : (x == ("__debug__" : Str)) = false) (hl : PA X (e :: es) (tA C P (callD P d) Wx l))
    (he : starEach (e :: es) X.env = (false, eval e X.env) :: starEach es X.env) (hpl : (backTo pos (starEach es X.env)).any (·.1) = false) : PE X (.Call (.Name x p) (e :: es) [] pos) (tE C P (callD P d) Wx (.call n l)) := by
  obtain ⟨f, fd, ps, e1, e2, e3, e4, F⟩ := ct.fn d (Nat.le_refl d) n x hn
  refine (pe_callS F ct.room hg e2 e3 e4 (passAt ct.tk) hl hdb he hpl).imp fun σ H Q ⟨ρ, s, env, eR, S, h⟩ => ?_
  simp only [evE] at h
  refine tA.bnd eR S rfl h fun ρ1 H1 s1 x v g1 eR1 S1 r1 h1 => ?_
  exact ⟨C.xi, ρ1, s1, x, S1, r1, h1⟩
def biN : Bi → Option (Str × Bool)
  | .len => some ("len", true) | .abs => some ("abs", true) | .int => some ("int", false) | .list => some ("list", false) | .tuple => some ("tuple", false)
  | .max => some ("max", true) | .min => some ("min", true) | .sum => some ("sum", true) | .all => some ("all", true) | .any => some ("any", true) | .isi => some ("isinstance", true)
  | _ => none
theorem s_bi {b : Bi} {l : E} {x : Str} {k : Bool} {e : Expr} {es : List Expr} {p pos : Pos} (ct : Ct X C P Nn d Wx) (hb : biN b = some (x, k)) (hg : Gl X x) (hl : PA X (e :: es) (tA C P call Wx l))
    (he : starEach (e :: es) X.env = (false, eval e X.env) :: starEach es X.env) (hpl : (backTo pos (starEach es X.env)).any (·.1) = false) : PE X (.Call (.Name x p) (e :: es) [] pos) (tE C P call Wx (.bi b l)) := by
  have imp : b ≠ .mlist → ∀ σ H Q, tE C P call Wx (.bi b l) σ H Q → tA C P call Wx l σ H fun vs H1 => rBi C b vs H1 Q := fun hb σ H Q ⟨ρ, s, env, eR, S, h⟩ => by
    have h' : ResG C (RepR C) ρ H (G.bnd (evA P call l env) (fun xs => rd (biop b xs)) s) Q (WE Wx σ) := by
      cases b <;> first | (simp only [evE] at h; exact h) | exact (hb rfl).elim
    refine tA.bnd eR S rfl h' fun ρ1 H1 s1 x v g1 eR1 S1 r1 h1 => ?_
    obtain ⟨w, e, h1⟩ := h1.rd
    exact ⟨ρ1, s1, x, w, S1, r1, e, h1⟩
  cases b <;> simp only [biN, Option.some.injEq, Prod.mk.injEq, reduceCtorEq] at hb <;> obtain ⟨rfl, rfl⟩ := hb
  · exact (pe_callB (cb_len ct.hK) hg (ct.blt _ (by decide +kernel)) boot_len hl (by decide +kernel) (by decide +kernel) he hpl).imp (imp (by decide))
  · exact (pe_callB cb_abs hg (ct.blt _ (by decide +kernel)) (by decide +kernel) hl (by decide +kernel) (by decide +kernel) he hpl).imp (imp (by decide))
  · exact (pe_callTy cb_int hg (ct.blt _ (by decide +kernel)) (by decide +kernel) hl (by decide +kernel) (by decide +kernel) he hpl).imp (imp (by decide))
  · exact (pe_callTy (cb_list ct.hK) hg (ct.blt _ (by decide +kernel)) (by decide +kernel) hl (by decide +kernel) (by decide +kernel) he hpl).imp (imp (by decide))
  · exact (pe_callTy (cb_tuple ct.hK) hg (ct.blt _ (by decide +kernel)) (by decide +kernel) hl (by decide +kernel) (by decide +kernel) he hpl).imp (imp (by decide))
  · exact (pe_callB (cb_max ct.calm) hg (ct.blt _ (by decide +kernel)) (by decide +kernel) hl (by decide +kernel) (by decide +kernel) he hpl).imp (imp (by decide))
  · exact (pe_callB (cb_min ct.calm) hg (ct.blt _ (by decide +kernel)) (by decide +kernel) hl (by decide +kernel) (by decide +kernel) he hpl).imp (imp (by decide))
  · exact (pe_callB (cb_sum ct.calm) hg (ct.blt _ (by decide +kernel)) (by decide +kernel) hl (by decide +kernel) (by decide +kernel) he hpl).imp (imp (by decide))
  · exact (pe_callB (cb_all ct.calm) hg (ct.blt _ (by decide +kernel)) (by decide +kernel) hl (by decide +kernel) (by decide +kernel) he hpl).imp (imp (by decide))
  · exact (pe_callB (cb_any ct.calm) hg (ct.blt _ (by decide +kernel)) (by decide +kernel) hl (by decide +kernel) (by decide +kernel) he hpl).imp (imp (by decide))
  · exact (pe_callB (cb_isi ct.hK) hg (ct.blt _ (by decide +kernel)) (by decide +kernel) hl (by decide +kernel) (by decide +kernel) he hpl).imp (imp (by decide))
theorem s_mlist {l : E} {e : Expr} {es : List Expr} {p pos : Pos} (ct : Ct X C P Nn d Wx) (hg : Gl X "list") (hl : PA X (e :: es) (tA C P call Wx l))
    (he : starEach (e :: es) X.env = (false, eval e X.env) :: starEach es X.env) (hpl : (backTo pos (starEach es X.env)).any (·.1) = false) : PE X (.Call (.Name "list" p) (e :: es) [] pos) (tE C P call Wx (.bi .mlist l)) := by
  refine (pe_callTy (call_list_of) hg (ct.blt _ (by decide +kernel)) (by decide +kernel) hl (by decide +kernel) (by decide +kernel) he hpl).imp fun σ H Q ⟨ρ, s, env, eR, S, h⟩ => ?_
  simp only [evE] at h
  refine tA.bnd eR S rfl h fun ρ1 H1 s1 x v g1 eR1 S1 r1 h1 => ?_
  obtain ⟨w, e, h2⟩ := h1.pureR
  obtain ⟨a, rfl⟩ := biop_list1 e
  obtain ⟨u, rfl, r3⟩ := rep1 r1
  obtain ⟨ws, p, vs, rfl, rfl, hs, r2⟩ := list_of S1 r3 e
  refine ⟨p, vs, rfl, ct.hK ▸ hs, fun q hn => ?_⟩
  obtain ⟨g, S', r'⟩ := S1.push hn r2
  exact h2 _ _ _ g S' r'
/-! methods -/
/-- a list of the store is written -/
theorem SR.write {ρ : List Addr} {H : Hp} {s : ST} {n : Nat} {p : Addr} {ws us : List W} {vs xs : List V} (S : SR C ρ H s) (e : s[n]? = Option.some ws) (ep : ρ[n]? = Option.some p) (hp : H p = Option.some (.lst vs)) (r : Reps C ρ H us xs) :
    Gr ρ H ρ (upd H p (.lst xs)) ∧ SR C ρ (upd H p (.lst xs)) (s.set n us) := by
  have hm : p ∈ ρ := List.mem_of_getElem? ep
  have g : Gr ρ H ρ (upd H p (.lst xs)) := by
    refine ⟨⟨[], by simp, fun _ h => nomatch h⟩, fun q u hq h _ => ?_, fun q h => ?_⟩
    · have : q ≠ p := fun e => hq (e ▸ hm)
      rw [upd_ne this]; exact h
    · by_cases e : q = p
      · subst e
        obtain ⟨ps, z⟩ := h _ upd_same
        cases z
      · exact fun u hu => h u (by rw [upd_ne e]; exact hu)
  refine ⟨g, ⟨fun q hq => by
    obtain ⟨h1, zs, h2⟩ := S.xl q hq
    exact ⟨h1, zs, by rw [upd_ne (fun (z : q = p) => h1 (by rw [z]; exact hm))]; exact h2⟩, tabs_wr S.tb hp, by simp [S.len], S.nd, fun m ys e2 => ?_⟩⟩
  by_cases hmn : n = m
  · subst hmn
    rw [List.getElem?_set_self (List.getElem?_eq_some_iff.mp e).1] at e2
    cases e2
    exact ⟨p, xs, ep, upd_same, Reps.mono g _ _ r⟩
  · rw [List.getElem?_set_ne hmn] at e2
    obtain ⟨q, zs, a1, a2, a3⟩ := S.at_ m ys e2
    refine ⟨q, zs, a1, ?_, Reps.mono g _ _ a3⟩
    have : q ≠ p := fun e => by
      subst e
      obtain ⟨h1, e1⟩ := List.getElem?_eq_some_iff.mp a1
      obtain ⟨h2, e2⟩ := List.getElem?_eq_some_iff.mp ep
      exact hmn ((List.getElem_inj S.nd).mp (e2.trans e1.symm))
    rw [upd_ne this]; exact a2
theorem Rep.ref {ρ : List Addr} {H : Hp} {n : Nat} {v : V} (r : Rep C ρ H (.ref n) v) : ∃ p, ρ[n]? = some p ∧ v = .ref p := by simpa only [Rep] using r
theorem reps2 {ρ : List Addr} {H : Hp} {vs : List V} (r : Reps C ρ H [] vs) : vs = [] := r.nil'
theorem i_ref {m : Me} {o l : E} {σ : L2.St} {H : Hp} {Q : VK} {r : V → List V → Hp → VK → Prop} (h : tE C P call Wx (.meth m o l) σ H Q)
    (hm : m.isL = true) (k : ∀ n ρ2 H2 s2 p ws u, SR C ρ2 H2 s2 → ρ2[n]? = some p → Reps C ρ2 H2 ws u → ResG C (RepR C) ρ2 H2 (meL m n ws s2) Q (WE Wx σ) → r (.ref p) u H2 Q) : tBM X.K "list" r (tE C P call Wx o) (tA C P call Wx l) σ H Q := by
  obtain ⟨ρ, s, env, eR, S, h⟩ := h
  simp only [evE, hm] at h
  refine tE.bnd eR S rfl h fun ρ1 H1 s1 x v g1 eR1 S1 r1 h1 => ?_
  cases x <;> try exact h1.elim
  rename_i n
  obtain ⟨p, ep, rfl⟩ := r1.ref
  obtain ⟨vs0, hp0⟩ := S1.some (List.mem_of_getElem? ep)
  refine ⟨.inl ⟨rfl, vs0, SqL.of hp0⟩, ?_⟩
  refine tA.bnd eR1 S1 rfl h1 fun ρ2 H2 s2 y u g2 eR2 S2 r2 h2 => ?_
  exact k n ρ2 H2 s2 p y u S2 (g2.get ep) r2 h2
/-- o.append(x) -/
theorem s_append {o l : E} {eo e1 : Expr} {apos cpos : Pos} (ho : PE X eo (tE C P call Wx o)) (hl : PA X [e1] (tA C P call Wx l)) (hbase : attributeBase eo "append" X.env (eval eo X.env) = eval eo X.env)
    (hfew : ((backTo cpos (starEach [e1] X.env)).all (fun x => !x.1) && (backToKw cpos (keywordEach [] X.env)).all (fun x => x.1.isSome) && decide ([e1].length + ([] : List Keyword).length + (if ([] : List Keyword).isEmpty then 0 else 1) < 30)) = true)
    (hline : (apos.endLine == cpos.line) = true) (hs : starEach [e1] X.env = (false, eval e1 X.env) :: starEach [] X.env) :
    PE X (.Call (.Attribute eo "append" apos) [e1] [] cpos) (tE C P call Wx (.meth .append o l)) := by
  refine (pe_bm PySem.F.plainAttrs_list PySem.F.slot_list_append PySem.F.type_list_append mt_append ho hl hbase hfew hline hs rfl).imp fun σ H Q h => ?_
  refine i_ref h rfl fun n ρ2 H2 s2 p ws u S2 ep r2 h2 => ?_
  rcases ws with _ | ⟨w, _ | ⟨w2, t⟩⟩
  · exact h2.elim
  · obtain ⟨z, rfl, r3⟩ := rep1 r2
    simp only [meL] at h2
    unfold mApp at h2
    split at h2
    · rename_i ws es
      obtain ⟨p', vs, a1, a2, a3⟩ := S2.at_ n ws es
      rw [ep] at a1; cases a1
      split at h2
      · rename_i hlt
        obtain ⟨g, S'⟩ := S2.write es ep a2 (a3.app (Reps.one r3))
        exact ⟨p, vs, z, rfl, rfl, a2, by rw [← a3.length, ← line_eq]; exact hlt, h2 _ _ _ g S' Rep.mkN⟩
      · exact h2.elim
    · exact h2.elim
  · exact h2.elim
/-- o.pop(i) -/
theorem s_pop {o l : E} {eo e1 : Expr} {apos cpos : Pos} (ho : PE X eo (tE C P call Wx o)) (hl : PA X [e1] (tA C P call Wx l)) (hbase : attributeBase eo "pop" X.env (eval eo X.env) = eval eo X.env)
    (hfew : ((backTo cpos (starEach [e1] X.env)).all (fun x => !x.1) && (backToKw cpos (keywordEach [] X.env)).all (fun x => x.1.isSome) && decide ([e1].length + ([] : List Keyword).length + (if ([] : List Keyword).isEmpty then 0 else 1) < 30)) = true)
    (hline : (apos.endLine == cpos.line) = true) (hs : starEach [e1] X.env = (false, eval e1 X.env) :: starEach [] X.env) :
    PE X (.Call (.Attribute eo "pop" apos) [e1] [] cpos) (tE C P call Wx (.meth .pop o l)) := by
  refine (pe_bm PySem.F.plainAttrs_list PySem.F.slot_list_pop PySem.F.type_list_pop mt_popAt ho hl hbase hfew hline hs rfl).imp fun σ H Q h => ?_
  refine i_ref h rfl fun n ρ2 H2 s2 p ws u S2 ep r2 h2 => ?_
  rcases ws with _ | ⟨w, _ | ⟨w2, t⟩⟩
  · exact h2.elim
  · cases w <;> try exact h2.elim
    rename_i i
    obtain ⟨z, rfl, r3⟩ := rep1 r2
    have := r3.int; subst this
    simp only [meL] at h2
    unfold mPop at h2
    split at h2
    · rename_i ws es
      obtain ⟨p', vs, a1, a2, a3⟩ := S2.at_ n ws es
      rw [ep] at a1; cases a1
      split at h2
      · rename_i j ej
        split at h2
        · rename_i y ey
          split at h2
          · rename_i hr
            obtain ⟨z, e4, r4⟩ := a3.get ey
            obtain ⟨g, S'⟩ := S2.write es ep a2 (a3.erase j)
            have e5 : ixN vs.length i = some j := by rw [ix_eq, ← a3.length]; exact ej
            exact ⟨p, vs, i, j, z, rfl, rfl, a2, by omega, by omega, (ixN_seq e5).1, e4, h2 _ _ _ g S' (r4.mono g)⟩
          · exact h2.elim
        · exact h2.elim
      · exact h2.elim
    · exact h2.elim
  · cases w <;> exact h2.elim
theorem txt_join (a : List Nat) (ns : List (List Nat)) : Txt.join (strOf a) (ns.map strOf) = strOf (joinS a ns) := by
  rw [TL.join_eq]
  induction ns with
  | nil => rfl
  | cons p r ih =>
    cases r with
    | nil => rfl
    | cons q r =>
      show strOf p ++ strOf a ++ Str.join (strOf a) ((q :: r).map strOf) = strOf (p ++ (a ++ joinS a (q :: r)))
      rw [ih, strOf_app, strOf_app, List.append_assoc]
end
end G

set_option Elab.async false
set_option linter.all false
set_option autoImplicit false
set_option maxRecDepth 100000
set_option maxHeartbeats 2000000
/-! G7: what is walked, comprehensions, targets. -/
namespace G
open PySem PySem.Spec PyProof.Rows L2
section
variable {X : Cx} {C : Cn} {P : Pg} {Nn : Nm} {d : Nat} {Wx : WX} {call : Nat → List W → M W}
/-- o.join(x) -/
theorem s_join {o l : E} {eo e1 : Expr} {apos cpos : Pos} (ct : Ct X C P Nn d Wx) (ho : PE X eo (tE C P call Wx o)) (hl : PE X e1 (tE C P call Wx l)) (hbase : attributeBase eo "join" X.env (eval eo X.env) = eval eo X.env)
    (hline : (apos.endLine == cpos.line) = true) (hs : starEach [e1] X.env = [(false, eval e1 X.env)]) :
    PE X (.Call (.Attribute eo "join" apos) [e1] [] cpos) (tE C P call Wx (.meth .join o (.cons l .nil))) := by
  refine (pe_join ho hl hs hbase hline).imp fun σ H Q ⟨ρ, s, env, eR, S, h⟩ => ?_
  simp only [evE, Me.isL] at h
  refine tE.bnd eR S rfl h fun ρ1 H1 s1 x v g1 eR1 S1 r1 h1 => ?_
  cases x <;> try exact h1.elim
  rename_i a
  simp only [evA] at h1
  rw [bnd_assoc] at h1
  refine ⟨⟨_, r1.str.1⟩, ?_⟩
  refine tE.bnd eR1 S1 rfl h1 fun ρ2 H2 s2 y u g2 eR2 S2 r2 h2 => ?_
  have h3 : ResG C (RepR C) ρ2 H2 (G.rd (fun s => meJoin a s [y]) s2) Q (WE Wx σ) := h2
  obtain ⟨w, e, h3⟩ := h3.rd
  simp only [meJoin, Option.bind_eq_some_iff] at e
  obtain ⟨xs, e1, ns, e2, e⟩ := e
  split at e
  · rename_i hl
    cases e
    obtain ⟨p, vs, rfl, q, r⟩ := seqI_rep S2 r2 e1
    obtain ⟨f1, f2⟩ := r.strs e2
    subst f1
    have oS : okS (joinS a ns) := by
      have oa := r1.str.2
      clear hl e1 e2 r h3 q
      induction ns with
      | nil => exact fun _ h => nomatch h
      | cons p r ih =>
        cases r with
        | nil => exact f2 p List.mem_cons_self
        | cons q r => exact okS_app (f2 p List.mem_cons_self) (okS_app oa (ih fun l hl => f2 l (List.mem_cons_of_mem _ hl)))
    refine ⟨strOf a, p, ns.map strOf, r1.str.1, rfl, ct.hK ▸ q, ?_, ?_⟩
    · have e3 : ((ns.map strOf).map (·.length)).sum = (ns.map (·.length)).sum := by
        rw [List.map_map]
        exact congrArg List.sum (List.map_congr_left fun l _ => strOf_len l)
      rw [e3, List.length_map, strOf_len]
      exact hl
    · rw [txt_join]
      exact h3.here S2 (Rep.mkS oS)
  · cases e
/-! ### what is walked -/
def srcAt : Src → Nat → ST → Option (Option W)
  | .row xs, i, _ => some xs[i]?
  | .live n, i, s => liveAt n i s
  | .liveE n, i, s => (liveAt n i s).map fun o => o.map fun x => .tup [.int i, x]
def Lk (C : Cn) (ρ0 : List Addr) (H0 : Hp) (src : Src) (J : It) : Prop :=
  ∀ ρ H s i o, Gr ρ0 H0 ρ H → SR C ρ H s → srcAt src i s = some o → match o with
    | some x => J.go i H ∧ ∀ v H', J.yld i H v H' → Gr ρ H ρ H' ∧ SR C ρ H' s ∧ Rep C ρ H' x v
    | none => J.stop i H
/-- .. also while a list is made -/
def LkA (C : Cn) : List Addr → Hp → Src → It → Prop := fun ρ H src J => Lk C ρ H src J ∧ ∀ D, Fre H D → Lk (C.hide D) ρ H src J
theorem Lk.mono {ρ ρ' : List Addr} {H H' : Hp} {src : Src} {J : It} (h : Lk C ρ H src J) (g : Gr ρ H ρ' H') : Lk C ρ' H' src J := fun ρ2 H2 s i o g2 => h ρ2 H2 s i o (g.trans g2)
theorem LkA.mono {ρ ρ' : List Addr} {H H' : Hp} {src : Src} {J : It} (h : LkA C ρ H src J) (g : Gr ρ H ρ' H') : LkA C ρ' H' src J := ⟨h.1.mono g, fun D hD => (h.2 D (g.live D hD)).mono g⟩
theorem lk_rowL {ρ : List Addr} {H : Hp} {xs : List W} {p : Addr} {vs : List V} (ho : Out C ρ p) (hp : H p = some (.lst vs)) (r : Reps C ρ H xs vs) : LkA C ρ H (.row xs) (Itl X.K p) := by
  have main : ∀ C : Cn, Out C ρ p → Reps C ρ H xs vs → Lk C ρ H (.row xs) (Itl X.K p) := fun C ho r ρ2 H2 s i o g S e => by
    simp only [srcAt, Option.some.injEq] at e
    have hp2 := g.keep p _ ho.1 hp (fun _ q => by cases q)
    subst e
    cases ex : xs[i]? with
    | none =>
      refine ⟨vs, SqL.of hp2, ?_⟩
      rw [← r.length]
      exact List.getElem?_eq_none_iff.mp ex
    | some x =>
      obtain ⟨v, e1, r1⟩ := r.get ex
      refine ⟨⟨vs, v, SqL.of hp2, e1⟩, fun u H3 ⟨e3, hy⟩ => ?_⟩
      subst e3
      have := hy vs (SqL.of hp2)
      rw [e1] at this
      cases this
      exact ⟨Gr.refl, S, r1.mono g⟩
  exact ⟨main C ho r, fun D hD => main _ (ho.hide hD hp) (Reps.hide hD _ _ r)⟩
theorem lk_rowT {ρ : List Addr} {H : Hp} {xs : List W} {p : Addr} {vs : List V} (hX : X.K = C.K) (ho : RT C ρ H p vs) (r : Reps C ρ H xs vs) : LkA C ρ H (.row xs) (Itt X.K p) := by
  have main : ∀ C : Cn, X.K = C.K → RT C ρ H p vs → Reps C ρ H xs vs → (∀ ρ2 H2 s ys, Gr ρ H ρ2 H2 → SR C ρ2 H2 s → SqT X.K H2 p vs → SqT X.K H2 p ys → True) → Lk C ρ H (.row xs) (Itt X.K p) := fun C hX ho r _ ρ2 H2 s i o g S e => by
    simp only [srcAt, Option.some.injEq] at e
    have hp2 : SqT X.K H2 p vs := hX ▸ (ho.mono g).sq
    subst e
    cases ex : xs[i]? with
    | none =>
      refine ⟨vs, hp2, ?_⟩
      rw [← r.length]
      exact List.getElem?_eq_none_iff.mp ex
    | some x =>
      obtain ⟨v, e1, r1⟩ := r.get ex
      refine ⟨⟨vs, v, hp2, e1⟩, fun u H3 ⟨e3, hy⟩ => ?_⟩
      subst e3
      have := hy vs hp2
      rw [e1] at this
      cases this
      exact ⟨Gr.refl, S, r1.mono g⟩
  refine ⟨main C hX ho r fun _ _ _ _ _ _ _ _ => trivial, fun D hD => main _ hX ?_ (Reps.hide hD _ _ r) fun _ _ _ _ _ _ _ _ => trivial⟩
  rcases ho with ⟨o, q⟩ | q
  · obtain ⟨u, hu, hn⟩ := Rd.get q
    exact .inl ⟨o.hide hD hu hn, q⟩
  · exact .inr q
theorem lk_rowS {ρ : List Addr} {H : Hp} {l : List Nat} (ho : okS l) : LkA C ρ H (.row (l.map fun c => .str [c])) (Its (strOf l)) := by
  have main : ∀ C : Cn, Lk C ρ H (.row (l.map fun c => .str [c])) (Its (strOf l)) := fun C ρ2 H2 s i o g S e => by
    simp only [srcAt, Option.some.injEq, List.getElem?_map] at e
    subst e
    have hsz : (strOf l).cps.size = l.length := by simp [strOf]
    cases ex : l[i]? with
    | none =>
      show (strOf l).cps.size ≤ i
      rw [hsz]
      exact List.getElem?_eq_none_iff.mp ex
    | some c =>
      have hi := (List.getElem?_eq_some_iff.mp ex).1
      refine ⟨by show i < (strOf l).cps.size; rw [hsz]; exact hi, fun u H3 ⟨e3, c', e4, e5⟩ => ?_⟩
      subst e3; subst e5
      have : c' = c := by
        have e6 : l[i]? = some c' := by simpa [strOf] using e4
        rw [ex] at e6; cases e6; rfl
      subst this
      exact ⟨Gr.refl, S, Rep.mkS (l := [c']) fun d hd => by
        rw [List.mem_singleton.mp hd]; exact ho _ (List.mem_of_getElem? ex)⟩
  exact ⟨main C, fun D _ => main _⟩
theorem rngW_get : ∀ (n : Nat) (lo : Int) (i : Nat), (rngW lo n)[i]? = if i < n then some (W.int (lo + i)) else none
  | 0, lo, i => by simp [rngW]
  | n + 1, lo, 0 => by simp [rngW]
  | n + 1, lo, i + 1 => by
    simp only [rngW, List.getElem?_cons_succ, rngW_get n (lo + 1) i]
    by_cases h : i < n
    · rw [if_pos h, if_pos (by omega)]
      congr 2
      omega
    · rw [if_neg h, if_neg (by omega)]
theorem lk_rng {ρ : List Addr} {H : Hp} (lo : Int) (n : Nat) : LkA C ρ H (.row (rngW lo n)) (Itr lo n) := by
  have main : ∀ C : Cn, Lk C ρ H (.row (rngW lo n)) (Itr lo n) := fun C ρ2 H2 s i o g S e => by
    simp only [srcAt, Option.some.injEq, rngW_get] at e
    subst e
    by_cases h : i < n
    · rw [if_pos h]
      refine ⟨h, fun u H3 ⟨e3, e4⟩ => ?_⟩
      subst e3; subst e4
      exact ⟨Gr.refl, S, Rep.mkI⟩
    · rw [if_neg h]
      exact Nat.le_of_not_lt h
  exact ⟨main C, fun D _ => main _⟩
theorem lk_live {ρ : List Addr} {H : Hp} {n : Nat} {p : Addr} (hp : ρ[n]? = some p) : LkA C ρ H (.live n) (Itl X.K p) := by
  have main : ∀ C : Cn, Lk C ρ H (.live n) (Itl X.K p) := fun C ρ2 H2 s i o g S e => by
    simp only [srcAt, liveAt] at e
    split at e
    · rename_i xs es
      cases e
      obtain ⟨p', vs, a1, a2, a3⟩ := S.at_ n xs es
      rw [g.get hp] at a1; cases a1
      cases ex : xs[i]? with
      | none =>
        refine ⟨vs, SqL.of a2, ?_⟩
        rw [← a3.length]
        exact List.getElem?_eq_none_iff.mp ex
      | some x =>
        obtain ⟨v, e1, r1⟩ := a3.get ex
        refine ⟨⟨vs, v, SqL.of a2, e1⟩, fun u H3 ⟨e3, hy⟩ => ?_⟩
        subst e3
        have := hy vs (SqL.of a2)
        rw [e1] at this
        cases this
        exact ⟨Gr.refl, S, r1⟩
    · cases e
  exact ⟨main C, fun D _ => main _⟩
def tI (C : Cn) (P : Pg) (call : Nat → List W → M W) (Wx : WX) (ir : E) : TI := fun σ H R => ∃ ρ s env, EnvR C ρ H env σ ∧ SR C ρ H s ∧ ResG C (LkA C) ρ H (evI P call ir env s) R (WE Wx σ)
theorem _root_.L2.PI.imp {tg e : Expr} {t t' : TI} (h : PI X tg e t) (k : ∀ σ H Q, t' σ H Q → t σ H Q) : PI X tg e t' := ⟨fun pins s σ H Q I q => h.run pins s σ H Q I (k σ H Q q)⟩
/-- an expression whose outcome is known, ahead of a rest -/
theorem tE.ok {a : E} {γ δ : Type} {Rl2 : List Addr → Hp → γ → δ → Prop} {f : W → M γ} {ρ : List Addr} {H : Hp} {s : ST} {env : Env} {σ : L2.St} {Q : δ → Hp → Prop} {K : V → Hp → Prop} {x0 : W} {s0 : ST} (eR : EnvR C ρ H env σ) (S : SR C ρ H s)
    (h : ResG C Rl2 ρ H (G.bnd (evE P call a env) f s) Q (WE Wx σ)) (ex : evE P call a env s = .ok x0 s0)
    (k : ∀ ρ1 H1 v, Gr ρ H ρ1 H1 → EnvR C ρ1 H1 env σ → SR C ρ1 H1 s0 → Rep C ρ1 H1 x0 v → ResG C Rl2 ρ1 H1 (f x0 s0) Q (WE Wx σ) → K v H1) : tE C P call Wx a σ H K := by
  refine ⟨ρ, s, env, eR, S, ?_⟩
  unfold G.bnd at h
  rw [ex] at h ⊢
  exact fun ρ1 H1 v g S1 r => k ρ1 H1 v g (eR.mono g) S1 r (ResG.mono h g)
theorem tE.bad {a : E} {γ δ : Type} {Rl2 : List Addr → Hp → γ → δ → Prop} {f : W → M γ} {ρ : List Addr} {H : Hp} {s : ST} {env : Env} {σ : L2.St} {Q : δ → Hp → Prop} {K : V → Hp → Prop} (eR : EnvR C ρ H env σ) (S : SR C ρ H s)
    (h : ResG C Rl2 ρ H (G.bnd (evE P call a env) f s) Q (WE Wx σ)) (ex : ∀ x0 s0, evE P call a env s ≠ .ok x0 s0) : tE C P call Wx a σ H K := by
  refine ⟨ρ, s, env, eR, S, ?_⟩
  unfold G.bnd at h
  cases e : evE P call a env s with
  | ok x0 s0 => exact (ex x0 s0 e).elim
  | exc c l s1 => rw [e] at h; exact h
  | err => rw [e] at h; exact h
theorem s_itr {tg : Expr} {a : E} {ea : Expr} (ct : Ct X C P Nn d Wx) (ha : PE X ea (tE C P call Wx a)) : PI X tg ea (tI C P call Wx (.itr a)) := by
  refine ⟨fun pins st σ H R I ⟨ρ, s, env, eR, S, h⟩ => ?_⟩
  simp only [evI] at h
  cases ex : evE P call a env s with
  | err => exact (pi_list ha).run pins st σ H R I (tE.bad eR S h fun _ _ q => by rw [ex] at q; cases q)
  | exc c l s1 => exact (pi_list ha).run pins st σ H R I (tE.bad eR S h fun _ _ q => by rw [ex] at q; cases q)
  | ok x0 s0 =>
    cases x0 with
    | lst xs =>
      refine (pi_list ha).run pins st σ H R I (tE.ok eR S h ex fun ρ1 H1 v g eR1 S1 r h1 => ?_)
      simp only [Rep] at r
      obtain ⟨p, vs, rfl, o, hp, q⟩ := r
      exact ⟨p, rfl, ⟨vs, SqL.of hp⟩, ResG.here (Rl := LkA C) (a := .row xs) (s := s0) h1 S1 (lk_rowL o hp q)⟩
    | ref n =>
      refine (pi_list ha).run pins st σ H R I (tE.ok eR S h ex fun ρ1 H1 v g eR1 S1 r h1 => ?_)
      obtain ⟨p, ep, rfl⟩ := r.ref
      obtain ⟨vs, hp⟩ := S1.some (List.mem_of_getElem? ep)
      exact ⟨p, rfl, ⟨vs, SqL.of hp⟩, ResG.here (Rl := LkA C) (a := .live n) (s := s0) h1 S1 (lk_live ep)⟩
    | tup xs =>
      refine (pi_tup ha).run pins st σ H R I (tE.ok eR S h ex fun ρ1 H1 v g eR1 S1 r h1 => ?_)
      obtain ⟨p, vs, rfl, q, r2⟩ := r.tup
      exact ⟨p, rfl, ⟨vs, ct.hK ▸ q.sq⟩, ResG.here (Rl := LkA C) (a := .row xs) (s := s0) h1 S1 (lk_rowT ct.hK q r2)⟩
    | str l =>
      refine (pi_str ha).run pins st σ H R I (tE.ok eR S h ex fun ρ1 H1 v g eR1 S1 r h1 => ?_)
      exact ⟨_, r.str.1, ResG.here (Rl := LkA C) (a := .row (l.map fun c => .str [c])) (s := s0) h1 S1 (lk_rowS r.str.2)⟩
    | _ =>
      exfalso
      unfold G.bnd at h
      rw [ex] at h
      exact h
theorem tA.ok {a : E} {γ δ : Type} {Rl2 : List Addr → Hp → γ → δ → Prop} {f : List W → M γ} {ρ : List Addr} {H : Hp} {s : ST} {env : Env} {σ : L2.St} {Q : δ → Hp → Prop} {K : List V → Hp → Prop} {x0 : List W} {s0 : ST} (eR : EnvR C ρ H env σ) (S : SR C ρ H s)
    (h : ResG C Rl2 ρ H (G.bnd (evA P call a env) f s) Q (WE Wx σ)) (ex : evA P call a env s = .ok x0 s0)
    (k : ∀ ρ1 H1 v, Gr ρ H ρ1 H1 → EnvR C ρ1 H1 env σ → SR C ρ1 H1 s0 → Reps C ρ1 H1 x0 v → ResG C Rl2 ρ1 H1 (f x0 s0) Q (WE Wx σ) → K v H1) : tA C P call Wx a σ H K := by
  refine ⟨ρ, s, env, eR, S, ?_⟩
  unfold G.bnd at h
  rw [ex] at h ⊢
  exact fun ρ1 H1 v g S1 r => k ρ1 H1 v g (eR.mono g) S1 r (ResG.mono h g)
theorem tA.bad {a : E} {γ δ : Type} {Rl2 : List Addr → Hp → γ → δ → Prop} {f : List W → M γ} {ρ : List Addr} {H : Hp} {s : ST} {env : Env} {σ : L2.St} {Q : δ → Hp → Prop} {K : List V → Hp → Prop} (eR : EnvR C ρ H env σ) (S : SR C ρ H s)
    (h : ResG C Rl2 ρ H (G.bnd (evA P call a env) f s) Q (WE Wx σ)) (ex : ∀ x0 s0, evA P call a env s ≠ .ok x0 s0) : tA C P call Wx a σ H K := by
  refine ⟨ρ, s, env, eR, S, ?_⟩
  unfold G.bnd at h
  cases e : evA P call a env s with
  | ok x0 s0 => exact (ex x0 s0 e).elim
  | exc c l s1 => rw [e] at h; exact h
  | err => rw [e] at h; exact h
theorem evA_nil {env : Env} {s s0 : ST} {xs : List W} (h : evA P call .nil env s = .ok xs s0) : xs = [] := by
  simp only [evA, ret, R.ok.injEq] at h
  exact h.1.symm
theorem evA_cons {a b : E} {env : Env} {s s0 : ST} {xs : List W} (h : evA P call (.cons a b) env s = .ok xs s0) : ∃ x ys s1, xs = x :: ys ∧ evA P call b env s1 = .ok ys s0 := by
  simp only [evA, G.bnd] at h
  split at h <;> try (cases h; done)
  rename_i x s1 _
  split at h <;> try (cases h; done)
  rename_i ys s2 e
  simp only [ret, R.ok.injEq] at h
  obtain ⟨h1, h2⟩ := h
  exact ⟨x, ys, s1, h1.symm, by rw [e, h2]⟩
theorem s_rng1 {tg : Expr} {a : E} {e : Expr} {p pos : Pos} (ct : Ct X C P Nn d Wx) (hg : Gl X "range") (hl : PA X [e] (tA C P call Wx (.cons a .nil))) (hs : starEach [e] X.env = [(false, eval e X.env)]) :
    PI X tg (.Call (.Name "range" p) [e] [] pos) (tI C P call Wx (.rng (.cons a .nil))) := by
  refine ⟨fun pins st σ H R I ⟨ρ, s, env, eR, S, h⟩ => ?_⟩
  have rule := pi_range1 (tg := tg) (p := p) (pos := pos) hg (ct.blt _ (by decide +kernel)) hl hs
  simp only [evI] at h
  cases ex : evA P call (.cons a .nil) env s with
  | err => exact rule.run pins st σ H R I (tA.bad eR S h fun _ _ q => by rw [ex] at q; cases q)
  | exc c l s1 => exact rule.run pins st σ H R I (tA.bad eR S h fun _ _ q => by rw [ex] at q; cases q)
  | ok xs s0 =>
    refine rule.run pins st σ H R I (tA.ok eR S h ex fun ρ1 H1 v g eR1 S1 r h1 => ?_)
    obtain ⟨x, ys, s1, rfl, e2⟩ := evA_cons ex
    have := evA_nil e2; subst this
    obtain ⟨zs, e3, h2⟩ := h1.pureO
    cases x <;> simp only [rngOf, reduceCtorEq] at e3
    rename_i j
    split at e3
    · rename_i hb
      cases e3
      obtain ⟨v, rfl, r2⟩ := rep1 r
      rw [r2.int]
      have : small = 1000000000 := rfl
      exact ⟨j, rfl, by omega, by omega, ResG.here (Rl := LkA C) (a := .row (rngW 0 j.toNat)) (s := s0) h2 S1 (lk_rng 0 _)⟩
    · cases e3
theorem s_rng2 {tg : Expr} {a b : E} {e e' : Expr} {p pos : Pos} (ct : Ct X C P Nn d Wx) (hg : Gl X "range") (hl : PA X [e, e'] (tA C P call Wx (.cons a (.cons b .nil)))) (hs : starEach [e, e'] X.env = [(false, eval e X.env), (false, eval e' X.env)])
    (hs2 : starEach [e'] X.env = [(false, eval e' X.env)]) : PI X tg (.Call (.Name "range" p) [e, e'] [] pos) (tI C P call Wx (.rng (.cons a (.cons b .nil)))) := by
  refine ⟨fun pins st σ H R I ⟨ρ, s, env, eR, S, h⟩ => ?_⟩
  have rule := pi_range2 (tg := tg) (p := p) (pos := pos) hg (ct.blt _ (by decide +kernel)) hl hs hs2
  simp only [evI] at h
  cases ex : evA P call (.cons a (.cons b .nil)) env s with
  | err => exact rule.run pins st σ H R I (tA.bad eR S h fun _ _ q => by rw [ex] at q; cases q)
  | exc c l s1 => exact rule.run pins st σ H R I (tA.bad eR S h fun _ _ q => by rw [ex] at q; cases q)
  | ok xs s0 =>
    refine rule.run pins st σ H R I (tA.ok eR S h ex fun ρ1 H1 v g eR1 S1 r h1 => ?_)
    obtain ⟨x, ys, s1, rfl, e2⟩ := evA_cons ex
    obtain ⟨y, zs0, s2, rfl, e2'⟩ := evA_cons e2
    have := evA_nil e2'; subst this
    obtain ⟨zs, e3, h2⟩ := h1.pureO
    cases x <;> cases y <;> simp only [rngOf, reduceCtorEq] at e3
    rename_i i j
    split at e3
    · rename_i hb
      cases e3
      obtain ⟨v, us, rfl, r2, r3⟩ := r.cons'
      obtain ⟨v', rfl, r4⟩ := rep1 r3
      rw [r2.int, r4.int]
      have : small = 1000000000 := rfl
      exact ⟨i, j, rfl, ⟨by omega, by omega, by omega, by omega⟩, ResG.here (Rl := LkA C) (a := .row (rngW i (j - i).toNat)) (s := s0) h2 S1 (lk_rng i _)⟩
    · cases e3
/-! ### targets -/
mutual
def ckT (sc : Scope) (cl : Bool) (N : List Str) : T → Expr → Bool
  | .v i, .Name x _ => N[i]? == some x && (sc.names.lookup x == some .local || (cl && sc.names.lookup x == some .cell))
  | .cons a b, .Tuple (e :: es) _ _ => ckT sc cl N a e && ckTs sc cl N b es
  | _, _ => false
def ckTs (sc : Scope) (cl : Bool) (N : List Str) : T → List Expr → Bool
  | .nil, [] => true
  | .cons a b, e :: es => ckT sc cl N a e && ckTs sc cl N b es
  | _, _ => false
end
/-- the slots that a target writes -/
def tgV : T → List Nat
  | .v i => [i]
  | .nil => []
  | .cons a b => tgV a ++ tgV b
theorem wipe_set_gen (σ : L2.St) (i : Nat) (v : Option V) : ∀ js : List Nat, L2.wipe (σ.set i v) js = if i ∈ js then L2.wipe σ js else (L2.wipe σ js).set i v
  | [] => by simp [L2.wipe]
  | j :: js => by
    simp only [L2.wipe, wipe_set_gen σ i v js]
    by_cases h : i ∈ js
    · simp [h]
    · by_cases hj : i = j
      · subst hj; simp [h, L2.wipe]
      · simp only [h, if_false, List.mem_cons, hj, or_self, List.set_comm _ _ hj]
def Keeps (t : T) (σ σ' : L2.St) : Prop := ∀ own : List Nat, (∀ i ∈ tgV t, i ∈ own) → L2.wipe σ' own = L2.wipe σ own
def tG (C : Cn) (t : T) : TG := fun v σ H Q => ∃ ρ s env w env', EnvR C ρ H env σ ∧ SR C ρ H s ∧ Rep C ρ H w v ∧ asg t w env = some env' ∧ ∀ σ', EnvR C ρ H env' σ' → Keeps t σ σ' → Q σ' H
def tGs (C : Cn) (t : T) : TGs := fun vs σ H Q => ∃ ρ s env ws env', EnvR C ρ H env σ ∧ SR C ρ H s ∧ Reps C ρ H ws vs ∧ asgs t ws env = some env' ∧ ∀ σ', EnvR C ρ H env' σ' → Keeps t σ σ' → Q σ' H
theorem _root_.L2.PG.imp {e : Expr} {t t' : TG} (h : PG X e t) (k : ∀ v σ H Q, t' v σ H Q → t v σ H Q) : PG X e t' := ⟨fun pins s σ H v u Q I r q => h.run pins s σ H v u Q I r (k v σ H Q q)⟩
theorem _root_.L2.PGs.imp {e : List Expr} {t t' : TGs} (h : PGs X e t) (k : ∀ v σ H Q, t' v σ H Q → t v σ H Q) : PGs X e t' := ⟨fun pins s σ H v u Q I r q => h.run pins s σ H v u Q I r (k v σ H Q q)⟩
theorem asgs_len : ∀ {t : T} {ws : List W} {env env' : Env} {es : List Expr} {sc : Scope} {cl : Bool} {N : List Str}, ckTs sc cl N t es = true → asgs t ws env = some env' → ws.length = es.length
  | .nil, [], _, _, [], _, _, _, _, _ => rfl
  | .cons a b, w :: ws, env, env', e :: es, sc, cl, N, h, q => by
    simp only [ckTs, Bool.and_eq_true] at h
    simp only [asgs, Option.bind_eq_some_iff] at q
    obtain ⟨env1, _, q⟩ := q
    simp [asgs_len h.2 q]
  | .nil, _ :: _, _, _, _, _, _, _, _, q => by simp [asgs] at q
  | .nil, [], _, _, _ :: _, _, _, _, h, _ => by simp [ckTs] at h
  | .cons _ _, [], _, _, _, _, _, _, _, q => by simp [asgs] at q
  | .cons _ _, _ :: _, _, _, [], _, _, _, h, _ => by simp [ckTs] at h
  | .v _, _, _, _, _, _, _, _, h, _ => by simp [ckTs] at h
theorem asgEach {e : Expr} {es : List Expr} {env : PySem.Env} {t : T} {sc : Scope} {cl : Bool} {N : List Str} (h : ckT sc cl N t e = true) : assignEach (e :: es) env = (false, assign e env) :: assignEach es env := by
  cases t <;> cases e <;> first | rfl | (simp [ckT] at h; done)
theorem asgEach_len : ∀ {t : T} {es : List Expr} {sc : Scope} {cl : Bool} {N : List Str} (env : PySem.Env), ckTs sc cl N t es = true → (assignEach es env).length = es.length ∧ (assignEach es env).findIdx? (·.1) = none
  | .nil, [], _, _, _, env, _ => ⟨rfl, rfl⟩
  | .cons a b, e :: es, sc, cl, N, env, h => by
    simp only [ckTs, Bool.and_eq_true] at h
    obtain ⟨h1, h2⟩ := asgEach_len env h.2
    rw [asgEach h.1]
    exact ⟨by simp [h1], by simp [List.findIdx?_cons, h2]⟩
  | .nil, _ :: _, _, _, _, _, h => by simp [ckTs] at h
  | .cons _ _, [], _, _, _, _, h => by simp [ckTs] at h
  | .v _, _, _, _, _, _, h => by simp [ckTs] at h
mutual
theorem s_tg {sc : Scope} {cl : Bool} (hK : X.K = C.K) (hN : X.N.Nodup) (hc : X.calm = true) (Q : Sc X sc cl) : ∀ (t : T) (e : Expr), ckT sc cl X.N t e = true → PG X e (tG C t)
  | .v i, .Name x p, h => by
    simp only [ckT, Bool.and_eq_true, beq_iff_eq, Bool.or_eq_true] at h
    obtain ⟨h1, h2⟩ := Q.st x h.2
    refine (pg_name hN h.1 h1 h2).imp fun v σ H R ⟨ρ, s, env, w, env', eR, S, r, e, k⟩ => ?_
    simp only [asg] at e
    split at e
    · cases e
      exact k _ (eR.set r) fun own ho => by rw [wipe_set_gen, if_pos (ho i (by simp [tgV]))]
    · cases e
  | .cons a b, .Tuple (e :: es) kk p, h => by
    simp only [ckT, Bool.and_eq_true] at h
    obtain ⟨h1, h2⟩ := asgEach_len X.env h.2
    have h3 : ckTs sc cl X.N (.cons a b) (e :: es) = true := by simp only [ckTs, Bool.and_eq_true]; exact h
    refine (pg_tup hc (pgs_cons (s_tg hK hN hc Q a e h.1) (s_tgs hK hN hc Q b es h.2) (by rw [asgEach h.1]; rfl)) rfl (asgEach_len X.env h3).2).imp fun v σ H R ⟨ρ, s, env, w, env', eR, S, r, e, k⟩ => ?_
    cases w <;> try (simp [asg] at e; done)
    rename_i ws
    cases ws with
    | nil => simp [asg] at e
    | cons w ws =>
      simp only [asg, Option.bind_eq_some_iff] at e
      obtain ⟨env1, e1, e2⟩ := e
      obtain ⟨pp, vs, rfl, q, r2⟩ := r.tup
      obtain ⟨v, us, rfl, r3, r4⟩ := r2.cons'
      refine ⟨pp, v :: us, rfl, hK ▸ q.sq, ?_, v, us, rfl, ⟨ρ, s, env, w, env1, eR, S, r3, e1, fun σ' eR' kp => ⟨ρ, s, env1, ws, env', eR', S, r4, e2, fun σ2 eR2 kp2 => k σ2 eR2 fun own ho => (kp2 own fun i hi => ho i (by simp [tgV, hi])).trans (kp own fun i hi => ho i (by simp [tgV, hi]))⟩⟩⟩
      rw [(asgEach_len X.env h3).1, List.length_cons, List.length_cons, ← r4.length, asgs_len h.2 e2]
  | .nil, _, h => by simp [ckT] at h
  | .v _, .Tuple .., h => by simp [ckT] at h
  | .cons _ _, .Tuple [] _ _, h => by simp [ckT] at h
  | .cons _ _, .Name .., h => by simp [ckT] at h
  | .v _, .BoolOp .., h | .v _, .NamedExpr .., h | .v _, .BinOp .., h | .v _, .UnaryOp .., h | .v _, .Lambda .., h | .v _, .IfExp .., h | .v _, .Dict .., h | .v _, .Set .., h | .v _, .ListComp .., h | .v _, .SetComp .., h | .v _, .DictComp .., h | .v _, .GeneratorExp .., h | .v _, .Await .., h | .v _, .Yield .., h | .v _, .YieldFrom .., h | .v _, .Compare .., h | .v _, .Call .., h | .v _, .FormattedValue .., h | .v _, .JoinedStr .., h | .v _, .Constant .., h | .v _, .Attribute .., h | .v _, .Subscript .., h | .v _, .Starred .., h | .v _, .List .., h | .v _, .Slice .., h => by simp [ckT] at h
  | .cons _ _, .BoolOp .., h | .cons _ _, .NamedExpr .., h | .cons _ _, .BinOp .., h | .cons _ _, .UnaryOp .., h | .cons _ _, .Lambda .., h | .cons _ _, .IfExp .., h | .cons _ _, .Dict .., h | .cons _ _, .Set .., h | .cons _ _, .ListComp .., h | .cons _ _, .SetComp .., h | .cons _ _, .DictComp .., h | .cons _ _, .GeneratorExp .., h | .cons _ _, .Await .., h | .cons _ _, .Yield .., h | .cons _ _, .YieldFrom .., h | .cons _ _, .Compare .., h | .cons _ _, .Call .., h | .cons _ _, .FormattedValue .., h | .cons _ _, .JoinedStr .., h | .cons _ _, .Constant .., h | .cons _ _, .Attribute .., h | .cons _ _, .Subscript .., h | .cons _ _, .Starred .., h | .cons _ _, .List .., h | .cons _ _, .Slice .., h => by simp [ckT] at h
theorem s_tgs {sc : Scope} {cl : Bool} (hK : X.K = C.K) (hN : X.N.Nodup) (hc : X.calm = true) (Q : Sc X sc cl) : ∀ (t : T) (es : List Expr), ckTs sc cl X.N t es = true → PGs X es (tGs C t)
  | .nil, [], _ => by
    refine pgs_nil.imp fun vs σ H R ⟨ρ, s, env, ws, env', eR, S, r, e, k⟩ => ?_
    cases ws with
    | nil => simp only [asgs, Option.some.injEq] at e; subst e; exact ⟨r.nil', k σ eR fun _ _ => rfl⟩
    | cons _ _ => simp [asgs] at e
  | .cons a b, e :: es, h => by
    simp only [ckTs, Bool.and_eq_true] at h
    refine (pgs_cons (s_tg hK hN hc Q a e h.1) (s_tgs hK hN hc Q b es h.2) (by rw [asgEach h.1]; rfl)).imp fun vs σ H R ⟨ρ, s, env, ws, env', eR, S, r, e, k⟩ => ?_
    cases ws with
    | nil => simp [asgs] at e
    | cons w ws =>
      simp only [asgs, Option.bind_eq_some_iff] at e
      obtain ⟨env1, e1, e2⟩ := e
      obtain ⟨v, us, rfl, r3, r4⟩ := r.cons'
      exact ⟨v, us, rfl, ⟨ρ, s, env, w, env1, eR, S, r3, e1, fun σ' eR' kp => ⟨ρ, s, env1, ws, env', eR', S, r4, e2, fun σ2 eR2 kp2 => k σ2 eR2 fun own ho => (kp2 own fun i hi => ho i (by simp [tgV, hi])).trans (kp own fun i hi => ho i (by simp [tgV, hi]))⟩⟩⟩
  | .nil, _ :: _, h => by simp [ckTs] at h
  | .cons _ _, [], h => by simp [ckTs] at h
  | .v _, _, h => by simp [ckTs] at h
end
end
end G

set_option Elab.async false
set_option linter.all false
set_option autoImplicit false
set_option maxRecDepth 100000
set_option maxHeartbeats 2000000
/-! G8: comprehensions. -/
namespace G
open PySem PySem.Spec PyProof.Rows L2
section
variable {X : Cx} {C : Cn} {P : Pg} {Nn : Nm} {d : Nat} {Wx : WX} {call : Nat → List W → M W}
abbrev Cn.at (C : Cn) (xi : Addr → Prop) : Cn := { C with xi := xi }
abbrev WF : WX := fun _ _ _ _ => False
/-- the rounds by index -/
def compI (src : Src) (f : W → M (Option W)) : Nat → Nat → ST → R (List W)
  | 0, _, _ => .err
  | m + 1, i, s => match srcAt src i s with
    | none => .err
    | some none => .ok [] s
    | some (some x) => match f x s with
      | .ok o s1 => match compI src f m (i + 1) s1 with
        | .ok ys s2 => .ok (ocons o ys) s2
        | r => r
      | _ => .err
theorem comp_I (f : W → M (Option W)) (all : List W) : ∀ (xs : List W) (i : Nat) (s s' : ST) (ys : List W), all.drop i = xs → comp f xs s = .ok ys s' → ∃ m, compI (.row all) f m i s = .ok ys s'
  | [], i, s, s', ys, hd, h => by
    simp only [comp, ret, R.ok.injEq] at h
    have hl : all.length ≤ i := List.drop_eq_nil_iff.mp hd
    refine ⟨1, ?_⟩
    simp only [compI, srcAt, List.getElem?_eq_none hl]
    rw [h.1, h.2]
  | x :: xs, i, s, s', ys, hd, h => by
    have hx : all[i]? = some x := by
      have := congrArg (fun l => l[0]?) hd
      simpa [List.getElem?_drop] using this
    have hd' : all.drop (i + 1) = xs := by
      have := congrArg (List.drop 1) hd
      simpa [List.drop_drop] using this
    simp only [comp, bnd] at h
    cases e : f x s with
    | ok o s1 =>
      rw [e] at h
      simp only at h
      cases e2 : comp f xs s1 with
      | ok zs s2 =>
        rw [e2] at h
        simp only [ret, R.ok.injEq] at h
        obtain ⟨m, hm⟩ := comp_I f all xs (i + 1) s1 s2 zs hd' e2
        refine ⟨m + 1, ?_⟩
        simp only [compI, srcAt, hx, e, hm]
        rw [← h.1, ← h.2]
      | exc c l s2 => rw [e2] at h; cases h
      | err => rw [e2] at h; cases h
    | exc c l s1 => rw [e] at h; cases h
    | err => rw [e] at h; cases h
theorem compL_I (f : W → M (Option W)) (src : Src) (g : Nat → W → W) (n : Nat) (hs : ∀ i s, srcAt src i s = (liveAt n i s).map fun o => o.map (g i)) : ∀ (k i : Nat) (s s' : ST) (ys : List W), compL g f n k i s = .ok ys s' → compI src f k i s = .ok ys s'
  | 0, i, s, s', ys, h => by simp [compL, fail] at h
  | k + 1, i, s, s', ys, h => by
    simp only [compL, bnd, rd] at h
    simp only [compI, hs]
    cases e0 : liveAt n i s with
    | none => rw [e0] at h; cases h
    | some o =>
      rw [e0] at h
      cases o with
      | none => exact h
      | some x =>
        simp only [Option.map_some]
        simp only [bnd] at h
        cases e : f (g i x) s with
        | ok o s1 =>
          rw [e] at h
          simp only at h
          cases e2 : compL g f n k (i + 1) s1 with
          | ok zs s2 =>
            rw [e2] at h
            simp only [ret, R.ok.injEq] at h
            simp only [compL_I f src g n hs k (i + 1) s1 s2 zs e2, ← h.1, ← h.2]
          | exc c l s2 => rw [e2] at h; cases h
          | err => rw [e2] at h; cases h
        | exc c l s1 => rw [e] at h; cases h
        | err => rw [e] at h; cases h
theorem compS_I {f : W → M (Option W)} {fuel : Nat} {src : Src} {s s' : ST} {ys : List W} (h : compS f fuel src s = .ok ys s') : ∃ m, compI src f m 0 s = .ok ys s' := by
  cases src with
  | row xs => exact comp_I f xs xs 0 s s' ys rfl h
  | live n => exact ⟨fuel, compL_I f _ _ n (fun i s => by simp only [srcAt]; cases liveAt n i s with | none => rfl | some o => cases o <;> rfl) fuel 0 s s' ys h⟩
  | liveE n => exact ⟨fuel, compL_I f _ _ n (fun i s => rfl) fuel 0 s s' ys h⟩
/-- tests one behind the other -/
def tBs (C : Cn) (P : Pg) (call : Nat → List W → M W) (Wx : WX) (ir : E) : TT := fun σ H Q => ∃ ρ s env, EnvR C ρ H env σ ∧ SR C ρ H s ∧ ResG C BoolR ρ H (evB P call ir env s) Q (WE Wx σ)
theorem _root_.L2.PTs.imp {e : List Expr} {t t' : TT} (h : PTs X e t) (k : ∀ σ H Q, t' σ H Q → t σ H Q) : PTs X e t' := ⟨fun pins s σ H Q I q => h.run pins s σ H Q I (k σ H Q q)⟩
theorem s_bs0 : PTs X [] (tBs C P call Wx .nil) := by
  refine pts_nil.imp fun σ H Q ⟨ρ, s, env, eR, S, h⟩ => ?_
  simp only [evB] at h
  exact ResG.here (Rl := BoolR) (a := true) (v := true) h S rfl
theorem s_bs1 {a : E} {ea : Expr} (ha : PT X ea (tT C P call Wx a)) : PTs X [ea] (tBs C P call Wx (.cons a .nil)) := by
  refine (pts_one ha).imp fun σ H Q ⟨ρ, s, env, eR, S, h⟩ => ?_
  simp only [evB] at h
  refine tT.bnd eR S rfl h (fun x s hx => ?_) fun ρ1 H1 s1 k g1 eR1 S1 h1 => ?_
  · cases x <;> first | rfl | exact (hx _ rfl).elim
  · cases k with
    | true => exact ResG.here (Rl := BoolR) (a := true) (v := true) h1 S1 rfl
    | false => exact ResG.here (Rl := BoolR) (a := false) (v := false) h1 S1 rfl
theorem wipe_idem (σ : L2.St) (own : List Nat) : L2.wipe (L2.wipe σ own) own = L2.wipe σ own := by
  have set_all : ∀ (js : List Nat) (τ : L2.St) (i : Nat), i ∈ js → L2.wipe (τ.set i none) js = L2.wipe τ js := fun js τ i h => by rw [wipe_set_gen, if_pos h]
  have : ∀ (is : List Nat), (∀ i ∈ is, i ∈ own) → L2.wipe (L2.wipe σ is) own = L2.wipe σ own := fun is => by
    induction is with
    | nil => intro _; rfl
    | cons i is ih =>
      intro h
      simp only [L2.wipe]
      rw [set_all own _ i (h i List.mem_cons_self)]
      exact ih fun j hj => h j (List.mem_cons_of_mem _ hj)
  exact this own fun _ h => h
theorem PE.ex {ι : Type} {e : Expr} {t : ι → TE} (h : ∀ i, PE X e (t i)) : PE X e (fun σ H Q => ∃ i, t i σ H Q) := ⟨fun pins s σ H Q I ⟨i, q⟩ => (h i).run pins s σ H Q I q⟩
theorem PTs.ex {ι : Type} {e : List Expr} {t : ι → TT} (h : ∀ i, PTs X e (t i)) : PTs X e (fun σ H Q => ∃ i, t i σ H Q) := ⟨fun pins s σ H Q I ⟨i, q⟩ => (h i).run pins s σ H Q I q⟩
theorem PG.ex {ι : Type} {e : Expr} {t : ι → TG} (h : ∀ i, PG X e (t i)) : PG X e (fun v σ H Q => ∃ i, t i v σ H Q) := ⟨fun pins s σ H v u Q I r ⟨i, q⟩ => (h i).run pins s σ H v u Q I r q⟩
theorem EnvR.hide {ρ : List Addr} {H : Hp} {env : Env} {σ : L2.St} {D : Addr} (e : EnvR C ρ H env σ) (hD : H D = none) : EnvR (C.hide D) ρ H env σ := ⟨e.len, fun i w h => by
  obtain ⟨v, h1, r⟩ := e.at_ i w h
  exact ⟨v, h1, Rep.hide (Fre.of hD) _ _ r⟩⟩
def stepF (P : Pg) (call : Nat → List W → M W) (t : T) (ifs e : E) (own : List Nat) (env : Env) : W → M (Option W) := fun w =>
  match asg t w (wipes env own) with
  | some env' => bnd (evB P call ifs env') fun r => if r then bnd (evE P call e env') fun y => ret (some y) else ret none
  | none => fail
theorem i_lc {t : T} {it ifs e : E} {own : List Nat} (hown : ∀ i ∈ tgV t, i ∈ own) {σ : L2.St} {H : Hp} {Q : VK} (h : tE C P call Wx (.lc t it ifs e own) σ H Q) :
    tLc (tI C P call Wx it) (fun v σ H Q => ∃ xi, tG (C.at xi) t v σ H Q) (fun σ H Q => ∃ xi, tBs (C.at xi) P call WF ifs σ H Q) (fun σ H Q => ∃ xi, tE (C.at xi) P call WF e σ H Q) own σ H Q := by
  obtain ⟨ρ, s, env, eR, S, h⟩ := h
  simp only [evE] at h
  refine ⟨ρ, s, env, eR, S, (ResG.bnd (Rl := LkA C) h).imp fun J H1 ⟨ρ1, s1, src, g1, S1, lk, h1⟩ => ?_⟩
  intro D hD
  -- the rounds came to rows
  obtain ⟨ys, s2, hcomp, hline, h1'⟩ : ∃ ys s2, compS (stepF P call t ifs e own env) P.fuel src s1 = .ok ys s2 ∧ ys.length ≤ line ∧ ResG C (RepR C) ρ1 H1 (.ok (.lst ys) s2) Q (WE Wx σ) := by
    have h1 : ResG C (RepR C) ρ1 H1 (G.bnd (noexc (fits (compS (stepF P call t ifs e own env) P.fuel src))) (fun ys => ret (.lst ys)) s1) Q (WE Wx σ) := h1
    unfold G.bnd noexc fits G.bnd at h1
    cases e0 : compS (stepF P call t ifs e own env) P.fuel src s1 with
    | ok ys s2 =>
      rw [e0] at h1
      simp only at h1
      by_cases hl : ys.length ≤ line
      · rw [if_pos hl] at h1
        exact ⟨ys, s2, rfl, hl, h1⟩
      · rw [if_neg hl] at h1
        exact h1.elim
    | exc c l s2 => rw [e0] at h1; exact h1.elim
    | err => rw [e0] at h1; exact h1.elim
  obtain ⟨m0, hm0⟩ := compS_I hcomp
  have lkD := lk.2 D (Fre.of hD)
  have eR1 := (eR.mono g1).hide hD
  have outD : ∀ ρ2 : List Addr, ∀ H2 s, SR (C.hide D) ρ2 H2 s → D ∉ ρ2 := fun ρ2 H2 s S => (S.xl D (.inr rfl)).1
  refine ⟨fun i m H2 => ∃ ρ2 s' accW accV rest, Gr ρ1 H1 ρ2 H2 ∧ SR (C.hide D) ρ2 H2 s' ∧ H2 D = some (.lst accV) ∧ Reps (C.hide D) ρ2 H2 accW accV ∧ accW ++ rest = ys ∧ compI src (stepF P call t ifs e own env) m i s' = .ok rest s2, ⟨m0, ρ1, s1, [], [], ys, ?_, S1.hide hD, upd_same, by simp only [Reps], rfl, hm0⟩, ?_⟩
  · exact Gr.new hD
  rintro i m H2 ⟨ρ2, s', accW, accV, rest, g2, S2, hH2, rA, eA, hc⟩
  cases m with
  | zero => simp [compI] at hc
  | succ m =>
    simp only [compI] at hc
    cases esrc : srcAt src i s' with
    | none => rw [esrc] at hc; cases hc
    | some o =>
      rw [esrc] at hc
      have lki := lkD ρ2 H2 s' i o g2 S2 esrc
      cases o with
      | none =>
        simp only [R.ok.injEq] at hc
        obtain ⟨rfl, rfl⟩ := hc
        refine .inl ⟨lki, ?_⟩
        refine h1' ρ2 H2 _ g2 S2.show ?_
        rw [← eA, List.append_nil]
        show Rep C ρ2 H2 (.lst accW) (.ref D)
        simp only [Rep]
        exact ⟨D, accV, rfl, ⟨outD _ _ _ S2, fun hx => by
          obtain ⟨_, zs, ez⟩ := S1.xl D hx
          rw [hD] at ez; cases ez⟩, hH2, Reps.show _ _ rA⟩
      | some x =>
        simp only at hc
        obtain ⟨jgo, jyld⟩ := lki
        refine .inr ⟨jgo, _, fun H' hn => ⟨m, Nat.lt_succ_self m, hn⟩, fun v H3 hy => ?_⟩
        obtain ⟨g3, S3, rx⟩ := jyld v H3 hy
        cases ef : stepF P call t ifs e own env x s' with
        | exc c l s3 => rw [ef] at hc; cases hc
        | err => rw [ef] at hc; cases hc
        | ok o s3 =>
          rw [ef] at hc
          simp only at hc
          cases er : compI src (stepF P call t ifs e own env) m (i + 1) s3 with
          | exc c l s4 => rw [er] at hc; cases hc
          | err => rw [er] at hc; cases hc
          | ok zs s4 =>
            rw [er] at hc
            simp only [R.ok.injEq] at hc
            obtain ⟨erest, es4⟩ := hc
            subst es4
            unfold stepF at ef
            cases ea : asg t x (wipes env own) with
            | none => rw [ea] at ef; cases ef
            | some env' =>
              rw [ea] at ef
              simp only at ef
              have hD3 : H3 D = some (.lst accV) := g3.keep D _ (outD _ _ _ S2) hH2 (fun _ q => by cases q)
              have gA := g2.trans g3
              refine ⟨(C.hide D).xi, ρ2, s', wipes env own, x, env', (eR1.mono gA).wipe own, S3, rx, ea, fun σ' eR' kp => ⟨(kp own hown).trans (wipe_idem σ own), ?_⟩⟩
              refine ⟨(C.hide D).xi, ρ2, s', env', eR', S3, ?_⟩
              unfold bnd at ef
              cases eb : evB P call ifs env' s' with
              | exc c l s5 => rw [eb] at ef; cases ef
              | err => rw [eb] at ef; cases ef
              | ok b s5 =>
                rw [eb] at ef
                intro ρ4 H4 b' g4 S4 hb
                have hb : b = b' := hb
                subst hb
                have hD4 : H4 D = some (.lst accV) := g4.keep D _ (outD _ _ _ S3) hD3 (fun _ q => by cases q)
                have rA4 := Reps.mono (g3.trans g4) _ _ rA
                cases b with
                | false =>
                  rw [if_neg Bool.false_ne_true]
                  simp only [Bool.false_eq_true, if_false, ret, R.ok.injEq] at ef
                  obtain ⟨rfl, rfl⟩ := ef
                  simp only [ocons] at erest
                  exact ⟨ρ4, s5, accW, accV, zs, gA.trans g4, S4, hD4, rA4, by rw [← eA, ← erest], er⟩
                | true =>
                  rw [if_pos rfl]
                  simp only [if_true] at ef
                  refine ⟨(C.hide D).xi, ρ4, s5, env', EnvR.mono eR' g4, S4, ?_⟩
                  cases ee : evE P call e env' s5 with
                  | exc c l s6 => rw [ee] at ef; cases ef
                  | err => rw [ee] at ef; cases ef
                  | ok y s6 =>
                    rw [ee] at ef
                    simp only [ret, R.ok.injEq] at ef
                    obtain ⟨rfl, rfl⟩ := ef
                    simp only [ocons] at erest
                    intro ρ5 H5 v5 g5 S5 r5
                    have hD5 : H5 D = some (.lst accV) := g5.keep D _ (outD _ _ _ S4) hD4 (fun _ q => by cases q)
                    have rA5 := Reps.mono g5 _ _ rA4
                    refine ⟨accV, hD5, ?_, ρ5, s6, accW ++ [y], accV ++ [v5], zs, ((gA.trans g4).trans g5).past hD (outD _ _ _ S5) _, SR.other S5 _, upd_same, ?_, ?_, er⟩
                    · rw [← rA5.length, ← line_eq]
                      have : ys.length = accW.length + (zs.length + 1) := by rw [← eA, ← erest]; simp
                      omega
                    · exact Reps.other _ _ _ (rA5.app (Reps.one r5))
                    · rw [← eA, ← erest]; simp
end
end G

set_option Elab.async false
set_option linter.all false
set_option autoImplicit false
set_option maxRecDepth 100000
set_option maxHeartbeats 2000000
/-! GL: a lambda handed to a teller. -/
namespace G
open PySem PySem.Spec PyProof.Rows L2 LamX
def noArgs (p : Arguments) : Bool := p.posonlyargs.isEmpty && p.args.isEmpty && p.vararg.isNone && p.kwonlyargs.isEmpty && p.kw_defaults.isEmpty && p.kwarg.isNone && p.defaults.isEmpty
theorem noArgs_ok {p : Arguments} (h : noArgs p = true) : p = { posonlyargs := [], args := [], vararg := none, kwonlyargs := [], kw_defaults := [], kwarg := none, defaults := [] } := by
  cases p
  simp only [noArgs, Bool.and_eq_true, List.isEmpty_iff, Option.isNone_iff_eq_none] at h
  obtain ⟨⟨⟨⟨⟨⟨h1, h2⟩, h3⟩, h4⟩, h5⟩, h6⟩, h7⟩ := h
  subst h1 h2 h3 h4 h5 h6 h7
  rfl
section
variable {X : Cx} {C : Cn} {P : Pg} {Nn : Nm} {d : Nat} {Wx : WX}
theorem gr_ext {ρ : List Addr} {H H1 : Hp} (e : ExtN H H1) : Gr ρ H ρ H1 := ⟨⟨[], by simp, fun _ h => nomatch h⟩, fun p o _ h hn => e p o h hn, fun p f o h => by
  by_cases hn : ∀ ps, o ≠ .tbl ps
  · exact (f.no (e p o h hn) hn).elim
  · simpa using hn⟩
theorem SR.ext {ρ : List Addr} {H H1 : Hp} {s : ST} (S : SR C ρ H s) (e : ExtN H H1) (t : Tabs C.T H1) : SR C ρ H1 s :=
  S.mono (gr_ext e) (fun p hp => by
    obtain ⟨vs, h⟩ := S.some hp
    rw [h]; exact e p _ h (fun _ q => by cases q)) t
theorem Ct.lam {k : Nat} (ct : Ct X C P Nn (k + 2) Wx) (A : Around) (outer : List PySem.Env) (s : Shared) (H : Hp) (E : XK) (scope : Scope) (f c' : Addr) (hr : Room k (A.deeper (lamEnv X scope s.heap.objs.size f c'))) :
    Ct (lamCx X A outer s H E scope f c') C P Nn.no k (fun cls d _ H => E cls d H) :=
  ⟨ct.hK, ct.nd, rfl, hr, takes_of rfl rfl rfl rfl, ct.blt, fun j hj n x hn => ct.fn j (by omega) n x hn, ct.cn, fun n x hn => by simp [Nm.no] at hn⟩
theorem Sc.lam (A : Around) (outer : List PySem.Env) (s : Shared) (H : Hp) (E : XK) (scope : Scope) (f c' : Addr) : Sc (lamCx X A outer s H E scope f c') scope false :=
  { cf := fun x h => h
    st := fun x h => by
      rcases h with h | ⟨h, _⟩
      · exact ⟨.inl h, .inr h⟩
      · cases h
    vis := fun x h => h
    gl := fun x h => h
    loc := fun x h => h }
theorem s_clo {n : Nat} {l : E} {x : Str} {params : Arguments} {body : Expr} {scope : Scope} {p lpos pos : Pos} (ct : Ct X C P Nn d Wx) (hn : Nn.tl[n]? = some x) (hg : Gl X x) (hdb : (x == ("__debug__" : Str)) = false) (L : LamS X.env.scope scope) (hp : noArgs params = true)
    (hbody : ∀ (k : Nat), d = k + 2 → ∀ (A : Around) (outer : List PySem.Env) (s : Shared) (H : Hp) (E : XK) (f c' : Addr), Room k (A.deeper (lamEnv X scope s.heap.objs.size f c')) → PE (lamCx X A outer s H E scope f c') body (tE C P (callD P k) (fun cls d _ H => E cls d H) l)) :
    PE X (.Call (.Name x p) [.Lambda params body scope lpos] [] pos) (tE C P (callD P d) Wx (.clo n l)) := by
  have small : (∀ k, d ≠ k + 2) → PE X (.Call (.Name x p) [.Lambda params body scope lpos] [] pos) (tE C P (callD P d) Wx (.clo n l)) := fun hd => ⟨fun pins st σ H Q I ⟨ρ, s, env, eR, S, h⟩ => by
    exfalso
    simp only [evE] at h
    unfold tellM G.bnd at h
    cases e : callD P d P.defs.length [] s with
    | ok w s' =>
      obtain ⟨k, hk, _⟩ := callD_gate e
      exact hd k hk
    | exc c l s' => exact callD_gateX e
    | err => rw [e] at h; exact h⟩
  match d, ct, hbody, small with
  | 0, ct, hbody, small => exact small fun k hk => by omega
  | 1, ct, hbody, small => exact small fun k hk => by omega
  | k + 2, ct, hbody, small =>
    have hpe := noArgs_ok hp
    subst hpe
    obtain ⟨⟨row, er, tk⟩, c, Pt, hcode, TB, hmT, hu⟩ := ct.lm n x hn
    obtain ⟨g, pg, bg, sg, kV, doc, pm, cdv, ctv, oc, an, od, osl, Ng, a, r0, h₀, hds, hs, p1, p2, p3, p5, p6, p8, j, e1, e2, e3, e4, e5, e6, e7, e8, e9, e10, e11, e12, e13, e14⟩ := tk.ex
    subst e11
    refine (pe_lamcall (T := C.T) (TT := TTell X.K hs) hg e1 e2 e3 e4 e5 e6 e7 e8 (tell_gives e13 e12 (fun f => ?_)) TB hcode hmT hu ct.room L rfl (fun q cl pm cv ctv => rfl) (fun A outer s H E f c' hr => hbody k rfl A outer s H E f c' hr) hdb e9 e10).imp fun σ H Q ⟨ρ, s, env, eR, S, h⟩ => ?_
    · unfold L2.start; rfl
    refine ⟨S.tb, fun H1 ex tb => ?_⟩
    have g1 : Gr ρ H ρ H1 := gr_ext ex
    have S1 := S.ext ex tb
    refine ⟨ρ, s, env, eR.mono g1, S1, ?_⟩
    simp only [evE] at h
    rw [callD_more] at h
    unfold tellM G.bnd at h
    have gate : callD P (k + 2) P.defs.length [] s = .ok .non s := by
      have h1 : P.defs[P.defs.length]? = none := List.getElem?_eq_none (Nat.le_refl _)
      rw [callD]; simp only [h1, if_true]
    rw [gate] at h
    simp only at h
    cases ev : evE P (callD P k) l env s with
    | ok w s' =>
      rw [ev] at h
      exact fun ρ' H' v g S' r => h ρ' H' _ (g1.trans g) S' (Rep.mkS fun _ h => nomatch h)
    | exc c1 l1 s' =>
      rw [ev] at h
      simp only [er, Option.bind_some] at h
      intro ρ' H' ad dd g S' ec
      cases et : (row[c1]?).join with
      | none => rw [et] at h; exact h.elim
      | some t =>
        rw [et] at h
        have et' : row[c1]? = some (some t) := by
          cases z : row[c1]? with
          | none => rw [z] at et; cases et
          | some o => rw [z] at et; cases o with
            | none => cases et
            | some t' => simpa using et
        obtain ⟨q1, q2⟩ := e14 c1 t ad et' ec
        exact tell_w q1 (h ρ' H' _ (g1.trans g) S' (Rep.mkS q2))
    | err => rw [ev] at h; exact h
end
end G

set_option Elab.async false
set_option linter.all false
set_option autoImplicit false
set_option maxRecDepth 100000
set_option maxHeartbeats 4000000
/-! G9: the checker of expressions, and that what it lets pass is sound. -/
namespace G
open PySem PySem.Spec PyProof.Rows L2
def notStar : Expr → Bool
  | .Starred .. => false
  | _ => true
def notCall : Expr → Bool
  | .Call .. => false
  | _ => true
def notSet : Expr → Bool
  | .Set .. => false
  | _ => true
def lookIs (sc : Scope) (x : Str) (k : NameKind) : Bool := sc.names.lookup x == some k
def isVis (sc : Scope) (x : Str) : Bool := lookIs sc x .local || lookIs sc x .cell || lookIs sc x .free
def okName (x : Str) : Bool := !(x == ("__debug__" : Str)) && !(x == ("__classdict__" : Str))
def ckK : W → Expr → Bool
  | .int i, .Constant (.int j) _ _ => i == j
  | .bl b, .Constant (.bool c) _ _ => b == c
  | .non, .Constant .none _ _ => true
  | .str l, .Constant (.str x) _ _ => x == strOf l && l.all (· < 0x110000)
  | _, _ => false
def tyNames : List String := ["int", "str", "bool", "tuple", "list"]
/-- the scope of a lambda without names of its own -/
def ckLam (sc scope : Scope) : Bool := (scope.kind == .function) && !scope.isCoroutine && !scope.isGenerator && scope.names.all fun y => !(y.2 == .local) && !(y.2 == .cell) && (!(y.2 == .free) || lookIs sc y.1 .cell || lookIs sc y.1 .free)
def ckBlk (N : List Str) (sc scope : Scope) (own : List (Str × Nat)) : Bool :=
  (scope.kind == .function) && scope.names.all (fun y => scope.names.lookup y.1 == some y.2) && own.all (fun p => N[p.2]? == some p.1) &&
  scope.names.all (fun y => !(y.2 == .free) || lookIs sc y.1 .cell || lookIs sc y.1 .free) &&
  scope.names.all (fun y => !(y.2 == .local || y.2 == .cell) || (own.map (·.1)).contains y.1 || !N.contains y.1)
def ownOf (N : List Str) (own : List Nat) : List (Str × Nat) := own.map fun i => (N.getD i "", i)
/-- whether a test of this form is its value's truth, or has a rule of its own -/
def ptOk : Expr → Bool
  | .Name .. | .Call .. | .Subscript .. | .Constant .. | .Compare .. | .BoolOp .. | .UnaryOp .Not _ _ => true
  | _ => false
def isOne : Expr → Bool
  | .Constant (.int j) _ _ => j == 1
  | _ => false
section
mutual
def ckE (Nn : Nm) (N : List Str) : Scope → E → Expr → Bool
  | sc, .var i, ex => match ex with
    | .Name x _ => N[i]? == some x && isVis sc x && okName x
    | _ => false
  | sc, .k w, ex => match w with
    | .ty t => match ex with
      | .Name x _ => x == Str.ofString t && lookIs sc x .globalImplicit && tyNames.contains t
      | _ => false
    | w => ckK w ex
  | sc, .glob n, ex => match ex with
    | .Name x _ => Nn.cns[n]? == some x && lookIs sc x .globalImplicit && okName x
    | _ => false
  | sc, .bin op a b, ex => match ex with
    | .BinOp l o r _ => o == bopO op && ckE Nn N sc a l && ckE Nn N sc b r
    | _ => false
  | sc, .neg a, ex => match ex with
    | .UnaryOp .USub e _ => ckE Nn N sc a e
    | _ => false
  | sc, .cmp op a b, ex => match ex with
    | .Compare l [o] [r] _ => o == copO op && ckE Nn N sc a l && ckE Nn N sc b r && notSet r
    | _ => false
  | sc, .chain op op' a b c, ex => match ex with
    | .Compare l [o, o'] [m, r] _ => o == copO op && o' == copO op' && ckE Nn N sc a l && ckE Nn N sc b m && ckE Nn N sc c r && notSet r
    | _ => false
  | sc, .and a b, ex => match ex with
    | .BoolOp .And [x, y] _ => ckE Nn N sc a x && ckE Nn N sc b y && ptOk x && ptOk y
    | .BoolOp .And (x :: y :: z :: rest) p => ckE Nn N sc a x && ckE Nn N sc b (.BoolOp .And (y :: z :: rest) p) && ptOk x
    | _ => false
  | sc, .or a b, ex => match ex with
    | .BoolOp .Or [x, y] _ => ckE Nn N sc a x && ckE Nn N sc b y && ptOk x && ptOk y
    | .BoolOp .Or (x :: y :: z :: rest) p => ckE Nn N sc a x && ckE Nn N sc b (.BoolOp .Or (y :: z :: rest) p) && ptOk x
    | _ => false
  | sc, .not a, ex => match ex with
    | .UnaryOp .Not e _ => ckE Nn N sc a e && ptOk e
    | _ => false
  | sc, .ife c a b, ex => match ex with
    | .IfExp c' a' b' _ => ckE Nn N sc c c' && ckE Nn N sc a a' && ckE Nn N sc b b' && ptOk c'
    | _ => false
  | sc, .tup l, ex => match ex with
    | .Tuple es _ _ => ckA Nn N sc l es
    | _ => false
  | sc, .lst l, ex => match ex with
    | .List es _ => ckA Nn N sc l es
    | _ => false
  | sc, .mlst l, ex => match ex with
    | .List es _ => ckA Nn N sc l es
    | _ => false
  | sc, .sl a lo hi, ex => match ex with
    | .Subscript o (.Slice l h none _) _ => ckE Nn N sc a o && ckO Nn N sc lo l && ckO Nn N sc hi h
    | _ => false
  | sc, .rev a, ex => match ex with
    | .Subscript o (.Slice none none (some (.UnaryOp .USub j _)) _) _ => isOne j && ckE Nn N sc a o
    | _ => false
  | sc, .ix a b, ex => match ex with
    | .Subscript o i _ => ckE Nn N sc a o && ckE Nn N sc b i && plainIx i
    | _ => false
  | sc, .call n l, ex => match ex with
    | .Call (.Name x _) (e :: es) [] _ => Nn.fns[n]? == some x && lookIs sc x .globalImplicit && okName x && ckA Nn N sc l (e :: es)
    | _ => false
  | sc, .bi b l, ex => match ex with
    | .Call (.Name x _) (e :: es) [] _ => (match b with | .mlist => x == ("list" : Str) | b => match biN b with | some (y, _) => x == y | none => false) && lookIs sc x .globalImplicit && ckA Nn N sc l (e :: es)
    | _ => false
  | sc, .meth m o l, ex => match ex with
    | .Call (.Attribute o' mm apos) [e] [] cpos => (match m with | .append => mm == ("append" : Str) | .pop => mm == ("pop" : Str) | .join => mm == ("join" : Str) | _ => false) && ckE Nn N sc o o' && ckA Nn N sc l [e] && notCall o' && apos.endLine == cpos.line
    | _ => false
  | sc, .lc t it ifs e own, ex => match ex with
    | .ListComp elt [⟨tg, iter, ifs', 0⟩] scope _ => ckBlk N sc scope (ownOf N own) && (tgV t).all (fun i => own.contains i) && ckT scope false N t tg && ckI Nn N sc it tg iter && ckB Nn N scope ifs ifs' && ckE Nn N scope e elt && notSet iter
    | _ => false
  | sc, .clo n l, ex => match ex with
    | .Call (.Name x _) [.Lambda params body scope _] [] _ => Nn.tl[n]? == some x && lookIs sc x .globalImplicit && okName x && ckLam sc scope && noArgs params && ckE Nn.no N scope l body
    | _ => false
  | _, _, _ => false
termination_by structural _ e => e
def ckA (Nn : Nm) (N : List Str) : Scope → E → List Expr → Bool
  | sc, .nil, l => match l with
    | [] => true
    | _ => false
  | sc, .cons a b, l => match l with
    | e :: es => ckE Nn N sc a e && ckA Nn N sc b es && notStar e
    | _ => false
  | _, _, _ => false
termination_by structural _ e => e
def ckO (Nn : Nm) (N : List Str) : Scope → E → Option Expr → Bool
  | sc, .no, o => match o with
    | none => true
    | _ => false
  | sc, .itr a, o => match o with
    | some e => ckE Nn N sc a e
    | _ => false
  | _, _, _ => false
termination_by structural _ e => e
def ckB (Nn : Nm) (N : List Str) : Scope → E → List Expr → Bool
  | sc, .nil, l => match l with
    | [] => true
    | _ => false
  | sc, .cons a b, l => match l with
    | [e] => ckE Nn N sc a e && ptOk e && (match b with | .nil => true | _ => false)
    | _ => false
  | _, _, _ => false
termination_by structural _ e => e
def ckI (Nn : Nm) (N : List Str) : Scope → E → Expr → Expr → Bool
  | sc, .itr a, _, e => ckE Nn N sc a e
  | sc, .rng l, _, ex => match ex with
    | .Call (.Name x _) [e] [] _ => x == ("range" : Str) && lookIs sc x .globalImplicit && ckA Nn N sc l [e]
    | .Call (.Name x _) [e, e'] [] _ => x == ("range" : Str) && lookIs sc x .globalImplicit && ckA Nn N sc l [e, e']
    | _ => false
  | _, _, _, _ => false
termination_by structural _ e => e
end
end
/-! lemmas of the forms -/
theorem star_cons {e : Expr} {es : List Expr} {env : PySem.Env} (h : notStar e = true) : starEach (e :: es) env = (false, eval e env) :: starEach es env := by
  cases e <;> first | rfl | (simp [notStar] at h)
theorem mark_no {op : CmpOp} {e : Expr} (h : notSet e = true) : behindInMarks op e = false := by
  cases e <;> first | rfl | (simp [notSet] at h)
theorem plain_ix {e : Expr} (h : plainIx e = true) : PlainIx e ∧ NoSl e := by
  cases e <;> first | exact ⟨fun _ _ => rfl, fun _ _ => rfl⟩ | (simp [plainIx] at h)
theorem base_of {e : Expr} {m : Str} {env : PySem.Env} (h : notCall e = true) : attributeBase e m env (eval e env) = eval e env := by
  cases e <;> first | rfl | (simp [notCall] at h)
theorem fold_no {e : Expr} {env : PySem.Env} (h : notSet e = true) : ∀ x, foldedSetIterable e env x = pure x := by
  cases e <;> first | (intro x; rfl) | (simp [notSet] at h)
section
variable {Nn : Nm} {N : List Str}
theorem ckA_star : ∀ {sc : Scope} {l : E} {es : List Expr} {env : PySem.Env} {pos : Pos}, ckA Nn N sc l es = true → (backTo pos (starEach es env)).any (·.1) = false
  | sc, .nil, es, env, pos, h => by
    simp only [ckA] at h
    split at h
    · rfl
    · cases h
  | sc, .cons a b, es, env, pos, h => by
    simp only [ckA] at h
    split at h
    · rename_i e es'
      simp only [Bool.and_eq_true] at h
      rw [star_cons h.2]
      have := ckA_star (env := env) (pos := pos) h.1.2
      simp only [backTo, List.map_cons, List.any_cons, Bool.false_eq_true, if_false, Bool.false_or]
      exact this
    · cases h
  | sc, .var _, _, _, _, h | sc, .k _, _, _, _, h | sc, .glob _, _, _, _, h | sc, .fnv _, _, _, _, h | sc, .bin .., _, _, _, h | sc, .neg _, _, _, _, h | sc, .cmp .., _, _, _, h | sc, .chain .., _, _, _, h | sc, .and .., _, _, _, h | sc, .or .., _, _, _, h | sc, .not _, _, _, _, h
  | sc, .ife .., _, _, _, h | sc, .tup _, _, _, _, h | sc, .lst _, _, _, _, h | sc, .mlst _, _, _, _, h | sc, .ix .., _, _, _, h | sc, .sl .., _, _, _, h | sc, .slx .., _, _, _, h | sc, .no, _, _, _, h | sc, .rev _, _, _, _, h | sc, .call .., _, _, _, h | sc, .bi .., _, _, _, h | sc, .meth .., _, _, _, h
  | sc, .lc .., _, _, _, h | sc, .lzip .., _, _, _, h | sc, .lrng _, _, _, _, h | sc, .rng _, _, _, _, h | sc, .enum _, _, _, _, h | sc, .zip .., _, _, _, h | sc, .itr _, _, _, _, h | sc, .clo .., _, _, _, h => by simp [ckA] at h
theorem ckA_head {sc : Scope} {l : E} {e : Expr} {es : List Expr} (h : ckA Nn N sc l (e :: es) = true) : notStar e = true := by
  cases l <;> simp only [ckA, Bool.false_eq_true, Bool.and_eq_true] at h
  exact h.2
theorem ckA_tail {sc : Scope} {l : E} {e : Expr} {es : List Expr} {env : PySem.Env} {pos : Pos} (h : ckA Nn N sc l (e :: es) = true) : (backTo pos (starEach es env)).any (·.1) = false := by
  cases l <;> simp only [ckA, Bool.false_eq_true, Bool.and_eq_true] at h
  exact ckA_star h.1.2
theorem ckA_one {sc : Scope} {l : E} {e : Expr} (h : ckA Nn N sc l [e] = true) : ∃ a, l = .cons a .nil ∧ ckE Nn N sc a e = true ∧ notStar e = true := by
  cases l <;> simp only [ckA, Bool.false_eq_true, Bool.and_eq_true] at h
  rename_i a b
  cases b <;> simp only [ckA, Bool.false_eq_true, false_and, and_false] at h
  exact ⟨a, rfl, h.1.1, h.2⟩
theorem ckA_two {sc : Scope} {l : E} {e e' : Expr} (h : ckA Nn N sc l [e, e'] = true) : ∃ a b, l = .cons a (.cons b .nil) ∧ ckE Nn N sc a e = true ∧ notStar e = true ∧ ckE Nn N sc b e' = true ∧ notStar e' = true := by
  cases l <;> simp only [ckA, Bool.false_eq_true, Bool.and_eq_true] at h
  rename_i a b
  obtain ⟨b', rfl, h1, h2⟩ := ckA_one h.1.2
  exact ⟨a, b', rfl, h.1.1, h.2, h1, h2⟩
end
/-! a comprehension's block as a place to stand -/
section
variable {X : Cx} {C : Cn} {P : Pg} {Nn : Nm} {d : Nat} {Wx : WX}
theorem Ct.blk (ct : Ct X C P Nn d Wx) (xi : Addr → Prop) (s : Shared) (H : Hp) (scope : Scope) (cenv : PySem.Env) (fp : List Addr) (hq : cenv.qual = X.env.qual := by rfl) (hc : cenv.code = X.env.code := by rfl) : Ct (X.blk s H scope cenv fp) (C.at xi) P Nn d WF :=
  ⟨ct.hK, ct.nd, ct.calm, ct.room, L2.takes0, ct.blt, ct.fn, ct.cn, fun n x hn => by
    obtain ⟨⟨row, er, tk⟩, c, Pt, h1, h2, h3, h4⟩ := ct.lm n x hn
    refine ⟨⟨row, er, ⟨tk.ex⟩⟩, c, Pt, hc.trans h1, h2, ?_, ?_⟩
    · show (Pt, cenv.qual ++ "<lambda>") ∈ C.T
      rw [hq]; exact h3
    · show ∀ p ∈ C.T, p.1 = Pt → p.2 = cenv.qual ++ "<lambda>"
      rw [hq]; exact h4⟩
theorem look_map (f : Str → NameKind → NameKind) : ∀ (names : List (Str × NameKind)) (x : Str), (names.map fun (n, k) => (n, f n k)).lookup x = (names.lookup x).map (f x)
  | [], x => rfl
  | (n, k) :: r, x => by
    have ih := look_map f r x
    simp only [List.map_cons, List.lookup]
    cases e : x == n with
    | true =>
      have : x = n := by simpa using e
      subst this; rfl
    | false => exact ih
theorem look_relabel (scope : Scope) (env : PySem.Env) (x : Str) : (relabel scope env).names.lookup x = (scope.names.lookup x).map fun k => if (k == .free && env.scope.kind == .function && env.kindOf x == some .cell) then .cell else k := by
  have := look_map (fun n k => if (k == .free && env.scope.kind == .function && env.kindOf n == some .cell) then NameKind.cell else k) scope.names x
  rw [← this]
  unfold relabel
  congr 1
  apply List.map_congr_left
  intro p _
  obtain ⟨n, k⟩ := p
  show (if _ then (n, NameKind.cell) else (n, k)) = (n, if _ then NameKind.cell else k)
  split <;> rfl
theorem Sc.blk {scope : Scope} (s : Shared) (H : Hp) (D : Addr) (cl : List (Str × Addr)) (fp : List Addr) : Sc (X.blk s H scope (compEnvC scope cl D X.env) fp) scope false := by
  have lk : ∀ x, (compEnvC scope cl D X.env).scope.names.lookup x = (scope.names.lookup x).map fun k => if (k == .free && X.env.scope.kind == .function && X.env.kindOf x == some .cell) then .cell else k := fun x => look_relabel scope X.env x
  have cf : ∀ x, scope.names.lookup x = some .cell ∨ scope.names.lookup x = some .free → (compEnvC scope cl D X.env).scope.names.lookup x = some .cell ∨ (compEnvC scope cl D X.env).scope.names.lookup x = some .free := fun x h => by
    rw [lk]
    rcases h with h | h
    · rw [h]; left; rfl
    · rw [h]
      show some (if _ then NameKind.cell else NameKind.free) = _ ∨ some (if _ then NameKind.cell else NameKind.free) = _
      split
      · exact .inl rfl
      · exact .inr rfl
  have lo : ∀ x, scope.names.lookup x = some .local → (compEnvC scope cl D X.env).scope.names.lookup x = some .local := fun x h => by
    rw [lk, h]; rfl
  refine ⟨cf, fun x h => ?_, fun x h => ?_, fun x h => ?_, lo⟩
  · rcases h with h | ⟨h, _⟩
    · exact ⟨.inl (lo x h), .inr (lo x h)⟩
    · cases h
  · rcases h with h | h
    · exact .inl (lo x h)
    · exact .inr (cf x h)
  · show (compEnvC scope cl D X.env).kindOf x = some .globalImplicit
    show (compEnvC scope cl D X.env).scope.names.lookup x = _
    rw [lk, h]; rfl
theorem blk_ok {sc scope : Scope} {cl : Bool} {own : List (Str × Nat)} (Q : Sc X sc cl) (h : ckBlk X.N sc scope own = true) : BlkOk X.N X.env.scope scope own := by
  simp only [ckBlk, Bool.and_eq_true, List.all_eq_true, beq_iff_eq, Bool.or_eq_true, Bool.not_eq_true', lookIs] at h
  obtain ⟨⟨⟨⟨h1, h2⟩, h3⟩, h4⟩, h5⟩ := h
  refine ⟨h1, fun y hy => h2 y hy, fun p hp => h3 p hp, fun y hy hf => ?_, fun y hy hl => ?_⟩
  · have := h4 y hy
    rw [hf] at this
    exact Q.cf y.1 (by simpa using this)
  · have := h5 y hy
    rcases this with (h | h) | h
    · rcases hl with hl | hl <;> rw [hl] at h <;> simp at h
    · exact .inl (by simpa using h)
    · exact .inr (by simpa using h)
theorem lam_ok {sc scope : Scope} {cl : Bool} (Q : Sc X sc cl) (h : ckLam sc scope = true) : LamX.LamS X.env.scope scope := by
  simp only [ckLam, Bool.and_eq_true, List.all_eq_true, beq_iff_eq, Bool.or_eq_true, Bool.not_eq_true', lookIs] at h
  obtain ⟨⟨⟨h1, h2⟩, h3⟩, h4⟩ := h
  refine ⟨h1, h2, h3, fun y hy => ⟨fun e => ?_, fun e => ?_⟩, fun y hy hf => Q.cf y.1 ?_⟩
  · have := (h4 y hy).1.1
    rw [e] at this; cases this
  · have := (h4 y hy).1.2
    rw [e] at this; cases this
  · have := (h4 y hy).2
    rw [hf] at this
    simpa using this
def Snd (X : Cx) (C : Cn) (P : Pg) (d : Nat) (Wx : WX) (ir : E) (e : Expr) : Prop :=
  PE X e (tE C P (callD P d) Wx ir) ∧ (ptOk e = true → PT X e (tT C P (callD P d) Wx ir)) ∧ (∀ op x y rest p, e = .BoolOp op (x :: y :: rest) p → PW X e (tT C P (callD P d) Wx ir))
theorem snd_val {ir : E} {e : Expr} (h : PE X e (tE C P (callD P d) Wx ir)) (he : ∀ whole, isTrue e X.env whole = (do let v ← whole; standAt e.pos; holding [v] (truthy v))) (hb : ∀ op x y rest p, e ≠ .BoolOp op (x :: y :: rest) p) : Snd X C P d Wx ir e :=
  ⟨h, fun _ => (pt_val h he).imp fun σ H Q q => q.val, fun op x y rest p q => (hb op x y rest p q).elim⟩
theorem snd_no {ir : E} {e : Expr} (h : PE X e (tE C P (callD P d) Wx ir)) (ho : ptOk e = false) : Snd X C P d Wx ir e :=
  ⟨h, fun q => (by rw [ho] at q; cases q), fun op x y rest p q => by subst q; simp [ptOk] at ho⟩
theorem snd_pt {ir : E} {e : Expr} (h : PE X e (tE C P (callD P d) Wx ir) ∧ PT X e (tT C P (callD P d) Wx ir)) (hb : ∀ op x y rest p, e ≠ .BoolOp op (x :: y :: rest) p) : Snd X C P d Wx ir e :=
  ⟨h.1, fun _ => h.2, fun op x y rest p q => (hb op x y rest p q).elim⟩
theorem snd_pw {ir : E} {e : Expr} (h : PE X e (tE C P (callD P d) Wx ir) ∧ PW X e (tT C P (callD P d) Wx ir)) : Snd X C P d Wx ir e :=
  ⟨h.1, fun _ => h.2.pt, fun _ _ _ _ _ _ => h.2⟩
theorem ty_rep {t : String} {xi : Addr → Prop} {ρ : List Addr} {H : Hp} : Rep (C.at xi) ρ H (.ty t) (.ty t) := by simp only [Rep]
theorem ckK_snd {w : W} {e : Expr} (h : ckK w e = true) : ∃ v, PE X e (tC v) ∧ (∀ ρ H, Rep C ρ H w v) ∧ (∀ whole, isTrue e X.env whole = (do let v ← whole; standAt e.pos; holding [v] (truthy v))) ∧ ∀ op x y rest p, e ≠ .BoolOp op (x :: y :: rest) p := by
  unfold ckK at h
  split at h
  · have := eq_of_beq h
    subst this
    exact ⟨_, pe_int, fun _ _ => Rep.mkI, fun _ => rfl, fun _ _ _ _ _ q => by cases q⟩
  · have := eq_of_beq h
    subst this
    exact ⟨_, pe_bl, fun _ _ => Rep.mkB, fun _ => rfl, fun _ _ _ _ _ q => by cases q⟩
  · exact ⟨_, pe_non, fun _ _ => Rep.mkN, fun _ => rfl, fun _ _ _ _ _ q => by cases q⟩
  · simp only [Bool.and_eq_true, beq_iff_eq, List.all_eq_true, decide_eq_true_eq] at h
    obtain ⟨rfl, h2⟩ := h
    exact ⟨_, pe_str, fun _ _ => Rep.mkS h2, fun _ => rfl, fun _ _ _ _ _ q => by cases q⟩
  · cases h
theorem boot_ty {t : String} (h : tyNames.contains t = true) : bootBuiltins (Str.ofString t) = some (.type t) ∧ Str.ofString t ≠ "__name__" ∧ (Str.ofString t == ("__debug__" : Str)) = false ∧ Str.ofString t ∈ bnames := by
  have : t = "int" ∨ t = "str" ∨ t = "bool" ∨ t = "tuple" ∨ t = "list" := by simpa [tyNames] using h
  rcases this with rfl | rfl | rfl | rfl | rfl <;> decide +kernel
theorem okName_of {x : Str} (h : okName x = true) : (x == ("__debug__" : Str)) = false ∧ (x == ("__classdict__" : Str)) = false := by
  simp only [okName, Bool.and_eq_true, Bool.not_eq_true'] at h
  exact h
theorem vis_of {sc : Scope} {cl : Bool} {x : Str} (Q : Sc X sc cl) (h : isVis sc x = true) : Vis X.env.scope x := by
  simp only [isVis, lookIs, Bool.or_eq_true, beq_iff_eq] at h
  exact Q.vis x (by rcases h with (h | h) | h; exact .inl h; exact .inr (.inl h); exact .inr (.inr h))
theorem gl_of {sc : Scope} {cl : Bool} {x : Str} (Q : Sc X sc cl) (h : lookIs sc x .globalImplicit = true) : Gl X x := Q.gl x (by simpa [lookIs] using h)
end
end G

set_option Elab.async false
set_option linter.all false
set_option autoImplicit false
set_option maxRecDepth 100000
set_option maxHeartbeats 4000000
/-! GA: what the checker of expressions lets pass is sound. -/
namespace G
open PySem PySem.Spec PyProof.Rows L2 LamX
section
variable {P : Pg}
theorem few_one {e : Expr} {env : PySem.Env} {cpos : Pos} (h : notStar e = true) : ((backTo cpos (starEach [e] env)).all (fun x => !x.1) && (backToKw cpos (keywordEach [] env)).all (fun x => x.1.isSome) && decide ([e].length + ([] : List Keyword).length + (if ([] : List Keyword).isEmpty then 0 else 1) < 30)) = true := by
  rw [star_cons h]; rfl
mutual
theorem sndE : ∀ (ir : E) (e : Expr) (Nn : Nm) (d : Nat) (X : Cx) (C : Cn) (Wx : WX) (sc : Scope) (cl : Bool), Ct X C P Nn d Wx → Sc X sc cl → ckE Nn X.N sc ir e = true → Snd X C P d Wx ir e
  | .var i, e, Nn, d, X, C, Wx, sc, cl, ct, Q, h => by
    simp only [ckE] at h
    split at h
    · simp only [Bool.and_eq_true, beq_iff_eq] at h
      obtain ⟨⟨h1, h2⟩, h3⟩ := h
      obtain ⟨h4, h5⟩ := okName_of h3
      exact snd_val (s_var h1 (vis_of Q h2) h4 h5) (fun _ => rfl) fun _ _ _ _ _ q => by cases q
    · cases h
  | .k w, e, Nn, d, X, C, Wx, sc, cl, ct, Q, h => by
    simp only [ckE] at h
    split at h
    · rename_i t
      split at h
      · simp only [Bool.and_eq_true, beq_iff_eq] at h
        obtain ⟨⟨rfl, h2⟩, h3⟩ := h
        obtain ⟨b1, b2, b3, b4⟩ := boot_ty h3
        exact snd_val (s_const (fun ρ H => ty_rep (xi := C.xi)) (pe_bltn (gl_of Q h2) (ct.blt _ b4) b1 rfl b2 b3)) (fun _ => rfl) fun _ _ _ _ _ q => by cases q
      · cases h
    · obtain ⟨v, h1, h2, h3, h4⟩ := ckK_snd (X := X) (C := C) h
      exact snd_val (s_const h2 h1) h3 h4
  | .glob n, e, Nn, d, X, C, Wx, sc, cl, ct, Q, h => by
    simp only [ckE] at h
    split at h
    · simp only [Bool.and_eq_true, beq_iff_eq] at h
      obtain ⟨⟨h1, h2⟩, h3⟩ := h
      exact snd_val (s_glob ct h1 (gl_of Q h2) (okName_of h3).1) (fun _ => rfl) fun _ _ _ _ _ q => by cases q
    · cases h
  | .bin op a b, e, Nn, d, X, C, Wx, sc, cl, ct, Q, h => by
    simp only [ckE] at h
    split at h
    · simp only [Bool.and_eq_true, beq_iff_eq] at h
      obtain ⟨⟨rfl, h2⟩, h3⟩ := h
      exact snd_no (s_bin ct (sndE a _ _ _ X C Wx sc cl ct Q h2).1 (sndE b _ _ _ X C Wx sc cl ct Q h3).1) rfl
    · cases h
  | .neg a, e, Nn, d, X, C, Wx, sc, cl, ct, Q, h => by
    simp only [ckE] at h
    split at h
    · exact snd_no (s_neg (sndE a _ _ _ X C Wx sc cl ct Q h).1) rfl
    · cases h
  | .cmp op a b, e, Nn, d, X, C, Wx, sc, cl, ct, Q, h => by
    simp only [ckE] at h
    split at h
    · simp only [Bool.and_eq_true, beq_iff_eq] at h
      obtain ⟨⟨⟨rfl, h2⟩, h3⟩, h4⟩ := h
      exact snd_pt (s_cmp ct (sndE a _ _ _ X C Wx sc cl ct Q h2).1 (sndE b _ _ _ X C Wx sc cl ct Q h3).1 (mark_no h4)) fun _ _ _ _ _ q => by cases q
    · cases h
  | .chain op op' a b c, e, Nn, d, X, C, Wx, sc, cl, ct, Q, h => by
    simp only [ckE] at h
    split at h
    · simp only [Bool.and_eq_true, beq_iff_eq] at h
      obtain ⟨⟨⟨⟨⟨rfl, rfl⟩, h2⟩, h3⟩, h4⟩, h5⟩ := h
      exact snd_pt (s_chain ct (sndE a _ _ _ X C Wx sc cl ct Q h2).1 (sndE b _ _ _ X C Wx sc cl ct Q h3).1 (sndE c _ _ _ X C Wx sc cl ct Q h4).1 (show behindInMarks _ _ = false from mark_no h5)) fun _ _ _ _ _ q => by cases q
    · cases h
  | .and a b, e, Nn, d, X, C, Wx, sc, cl, ct, Q, h => by
    simp only [ckE] at h
    split at h
    · simp only [Bool.and_eq_true] at h
      obtain ⟨⟨⟨h1, h2⟩, h3⟩, h4⟩ := h
      have A := sndE a _ _ _ X C Wx sc cl ct Q h1
      have B := sndE b _ _ _ X C Wx sc cl ct Q h2
      exact snd_pw (s_and A.1 (A.2.1 h3) (pe_one B.1) (pw_and1 (B.2.1 h4)))
    · simp only [Bool.and_eq_true] at h
      obtain ⟨⟨h1, h2⟩, h3⟩ := h
      have A := sndE a _ _ _ X C Wx sc cl ct Q h1
      have B := sndE b _ _ _ X C Wx sc cl ct Q h2
      exact snd_pw (s_and A.1 (A.2.1 h3) B.1 (B.2.2 _ _ _ _ _ rfl))
    · cases h
  | .or a b, e, Nn, d, X, C, Wx, sc, cl, ct, Q, h => by
    simp only [ckE] at h
    split at h
    · simp only [Bool.and_eq_true] at h
      obtain ⟨⟨⟨h1, h2⟩, h3⟩, h4⟩ := h
      have A := sndE a _ _ _ X C Wx sc cl ct Q h1
      have B := sndE b _ _ _ X C Wx sc cl ct Q h2
      exact snd_pw (s_or A.1 (A.2.1 h3) (pe_one B.1) (pw_or1 (B.2.1 h4)))
    · simp only [Bool.and_eq_true] at h
      obtain ⟨⟨h1, h2⟩, h3⟩ := h
      have A := sndE a _ _ _ X C Wx sc cl ct Q h1
      have B := sndE b _ _ _ X C Wx sc cl ct Q h2
      exact snd_pw (s_or A.1 (A.2.1 h3) B.1 (B.2.2 _ _ _ _ _ rfl))
    · cases h
  | .not a, e, Nn, d, X, C, Wx, sc, cl, ct, Q, h => by
    simp only [ckE] at h
    split at h
    · simp only [Bool.and_eq_true] at h
      have A := sndE a _ _ _ X C Wx sc cl ct Q h.1
      exact snd_pt (s_not A.1 (A.2.1 h.2)) fun _ _ _ _ _ q => by cases q
    · cases h
  | .ife c a b, e, Nn, d, X, C, Wx, sc, cl, ct, Q, h => by
    simp only [ckE] at h
    split at h
    · simp only [Bool.and_eq_true] at h
      obtain ⟨⟨⟨h1, h2⟩, h3⟩, h4⟩ := h
      exact snd_no (s_ife ((sndE c _ _ _ X C Wx sc cl ct Q h1).2.1 h4) (sndE a _ _ _ X C Wx sc cl ct Q h2).1 (sndE b _ _ _ X C Wx sc cl ct Q h3).1) rfl
    · cases h
  | .tup l, e, Nn, d, X, C, Wx, sc, cl, ct, Q, h => by
    simp only [ckE] at h
    split at h
    · exact snd_no (s_tup (sndA l _ _ _ X C Wx sc cl ct Q h)) rfl
    · cases h
  | .lst l, e, Nn, d, X, C, Wx, sc, cl, ct, Q, h => by
    simp only [ckE] at h
    split at h
    · exact snd_no (s_lst (sndA l _ _ _ X C Wx sc cl ct Q h)) rfl
    · cases h
  | .mlst l, e, Nn, d, X, C, Wx, sc, cl, ct, Q, h => by
    simp only [ckE] at h
    split at h
    · exact snd_no (s_mlst (sndA l _ _ _ X C Wx sc cl ct Q h)) rfl
    · cases h
  | .sl a lo hi, e, Nn, d, X, C, Wx, sc, cl, ct, Q, h => by
    simp only [ckE] at h
    split at h
    · simp only [Bool.and_eq_true] at h
      obtain ⟨⟨h1, h2⟩, h3⟩ := h
      exact snd_val (s_sl ct (sndE a _ _ _ X C Wx sc cl ct Q h1).1 (sndO lo _ _ _ X C Wx sc cl ct Q h2) (sndO hi _ _ _ X C Wx sc cl ct Q h3)) (fun _ => rfl) fun _ _ _ _ _ q => by cases q
    · cases h
  | .rev a, e, Nn, d, X, C, Wx, sc, cl, ct, Q, h => by
    simp only [ckE] at h
    split at h
    · simp only [Bool.and_eq_true] at h
      obtain ⟨h1, h2⟩ := h
      unfold isOne at h1
      split at h1
      · have := eq_of_beq h1
        subst this
        exact snd_val (s_rev (sndE a _ _ _ X C Wx sc cl ct Q h2).1) (fun _ => rfl) fun _ _ _ _ _ q => by cases q
      · cases h1
    · cases h
  | .ix a b, e, Nn, d, X, C, Wx, sc, cl, ct, Q, h => by
    simp only [ckE] at h
    split at h
    · simp only [Bool.and_eq_true] at h
      obtain ⟨⟨h1, h2⟩, h3⟩ := h
      obtain ⟨p1, p2⟩ := plain_ix h3
      exact snd_val (s_ix ct (sndE a _ _ _ X C Wx sc cl ct Q h1).1 (sndE b _ _ _ X C Wx sc cl ct Q h2).1 p1 p2) (fun _ => rfl) fun _ _ _ _ _ q => by cases q
    · cases h
  | .call n l, e, Nn, d, X, C, Wx, sc, cl, ct, Q, h => by
    simp only [ckE] at h
    split at h
    · simp only [Bool.and_eq_true, beq_iff_eq] at h
      obtain ⟨⟨⟨h1, h2⟩, h3⟩, h4⟩ := h
      have st := ckA_head h4
      exact snd_val (s_call ct h1 (gl_of Q h2) (okName_of h3).1 (sndA l _ _ _ X C Wx sc cl ct Q h4) (star_cons st) (ckA_tail h4)) (fun _ => rfl) fun _ _ _ _ _ q => by cases q
    · cases h
  | .bi b l, e, Nn, d, X, C, Wx, sc, cl, ct, Q, h => by
    simp only [ckE] at h
    split at h
    · simp only [Bool.and_eq_true] at h
      obtain ⟨⟨h1, h2⟩, h3⟩ := h
      have st := ckA_head h3
      refine snd_val ?_ (fun _ => rfl) fun _ _ _ _ _ q => by cases q
      split at h1
      · have := eq_of_beq h1
        subst this
        exact s_mlist ct (gl_of Q h2) (sndA l _ _ _ X C Wx sc cl ct Q h3) (star_cons st) (ckA_tail h3)
      · split at h1
        · rename_i y k hb
          have := eq_of_beq h1
          subst this
          exact s_bi ct hb (gl_of Q h2) (sndA l _ _ _ X C Wx sc cl ct Q h3) (star_cons st) (ckA_tail h3)
        · cases h1
    · cases h
  | .meth m o l, e, Nn, d, X, C, Wx, sc, cl, ct, Q, h => by
    simp only [ckE] at h
    split at h
    · simp only [Bool.and_eq_true] at h
      obtain ⟨⟨⟨⟨h1, h2⟩, h3⟩, h4⟩, h5⟩ := h
      obtain ⟨a, rfl, h6, h7⟩ := ckA_one h3
      have L := sndA (.cons a .nil) _ _ _ X C Wx sc cl ct Q h3
      refine snd_val ?_ (fun _ => rfl) fun _ _ _ _ _ q => by cases q
      split at h1
      · have := eq_of_beq h1
        subst this
        exact s_append (sndE o _ _ _ X C Wx sc cl ct Q h2).1 L (base_of h4) (few_one h7) h5 (star_cons h7)
      · have := eq_of_beq h1
        subst this
        exact s_pop (sndE o _ _ _ X C Wx sc cl ct Q h2).1 L (base_of h4) (few_one h7) h5 (star_cons h7)
      · have := eq_of_beq h1
        subst this
        exact s_join ct (sndE o _ _ _ X C Wx sc cl ct Q h2).1 (sndE a _ _ _ X C Wx sc cl ct Q h6).1 (base_of h4) h5 (star_cons h7)
      · cases h1
    · cases h
  | .clo n l, e, Nn, d, X, C, Wx, sc, cl, ct, Q, h => by
    simp only [ckE] at h
    split at h
    · simp only [Bool.and_eq_true, beq_iff_eq] at h
      obtain ⟨⟨⟨⟨⟨h1, h2⟩, h3⟩, h4⟩, h5⟩, h6⟩ := h
      refine snd_val (s_clo ct h1 (gl_of Q h2) (okName_of h3).1 (lam_ok Q h4) h5 fun k hk A outer s H E f c' hr => ?_) (fun _ => rfl) fun _ _ _ _ _ q => by cases q
      subst hk
      exact (sndE l _ Nn.no k (lamCx X A outer s H E _ f c') C (fun cls d _ H => E cls d H) _ false (ct.lam A outer s H E _ f c' hr) (Sc.lam A outer s H E _ f c') h6).1
    · cases h
  | .lc t it ifs el own, e, Nn, d, X, C, Wx, sc, cl, ct, Q, h => by
    simp only [ckE] at h
    split at h
    · simp only [Bool.and_eq_true] at h
      obtain ⟨⟨⟨⟨⟨⟨h1, h2⟩, h3⟩, h4⟩, h5⟩, h6⟩, h7⟩ := h
      have ho : ∀ i ∈ tgV t, i ∈ own := fun i hi => by simpa using List.all_eq_true.mp h2 i hi
      have eo : (ownOf X.N own).map (·.2) = own := by unfold ownOf; rw [List.map_map]; exact List.map_id _
      refine snd_no ((pe_lc ct.calm ct.nd (sndI it _ _ _ _ X C Wx sc cl ct Q h4) (blk_ok Q h1)
        (fun s H D c fp => PG.ex fun xi => s_tg ((ct.blk xi s H _ _ fp).hK) ct.nd ct.calm (Sc.blk s H D c fp) t _ h3)
        (fun s H D c fp => PTs.ex fun xi => sndB ifs _ _ _ _ (C.at xi) WF _ false (ct.blk xi s H _ _ fp) (Sc.blk s H D c fp) h5)
        (fun s H D c fp => PE.ex fun xi => (sndE el _ _ _ _ (C.at xi) WF _ false (ct.blk xi s H _ _ fp) (Sc.blk s H D c fp) h6).1) (fold_no h7)).imp fun σ H R q => ?_) rfl
      rw [eo]
      exact i_lc ho q
    · cases h
  | .fnv _, e, Nn, d, X, C, Wx, sc, cl, ct, Q, h | .slx .., e, Nn, d, X, C, Wx, sc, cl, ct, Q, h | .no, e, Nn, d, X, C, Wx, sc, cl, ct, Q, h | .lzip .., e, Nn, d, X, C, Wx, sc, cl, ct, Q, h | .lrng _, e, Nn, d, X, C, Wx, sc, cl, ct, Q, h | .rng _, e, Nn, d, X, C, Wx, sc, cl, ct, Q, h | .enum _, e, Nn, d, X, C, Wx, sc, cl, ct, Q, h | .zip .., e, Nn, d, X, C, Wx, sc, cl, ct, Q, h | .itr _, e, Nn, d, X, C, Wx, sc, cl, ct, Q, h | .nil, e, Nn, d, X, C, Wx, sc, cl, ct, Q, h | .cons .., e, Nn, d, X, C, Wx, sc, cl, ct, Q, h => by simp [ckE] at h
theorem sndA : ∀ (ir : E) (es : List Expr) (Nn : Nm) (d : Nat) (X : Cx) (C : Cn) (Wx : WX) (sc : Scope) (cl : Bool), Ct X C P Nn d Wx → Sc X sc cl → ckA Nn X.N sc ir es = true → PA X es (tA C P (callD P d) Wx ir)
  | .nil, es, Nn, d, X, C, Wx, sc, cl, ct, Q, h => by
    simp only [ckA] at h
    split at h
    · exact s_nil
    · cases h
  | .cons a b, es, Nn, d, X, C, Wx, sc, cl, ct, Q, h => by
    simp only [ckA] at h
    split at h
    · simp only [Bool.and_eq_true] at h
      exact s_cons (sndE a _ _ _ X C Wx sc cl ct Q h.1.1).1 (sndA b _ _ _ X C Wx sc cl ct Q h.1.2) (star_cons h.2)
    · cases h
  | .var _, e, Nn, d, X, C, Wx, sc, cl, ct, Q, h | .k _, e, Nn, d, X, C, Wx, sc, cl, ct, Q, h | .glob _, e, Nn, d, X, C, Wx, sc, cl, ct, Q, h | .fnv _, e, Nn, d, X, C, Wx, sc, cl, ct, Q, h | .bin .., e, Nn, d, X, C, Wx, sc, cl, ct, Q, h | .neg _, e, Nn, d, X, C, Wx, sc, cl, ct, Q, h | .cmp .., e, Nn, d, X, C, Wx, sc, cl, ct, Q, h | .chain .., e, Nn, d, X, C, Wx, sc, cl, ct, Q, h | .and .., e, Nn, d, X, C, Wx, sc, cl, ct, Q, h | .or .., e, Nn, d, X, C, Wx, sc, cl, ct, Q, h | .not _, e, Nn, d, X, C, Wx, sc, cl, ct, Q, h | .ife .., e, Nn, d, X, C, Wx, sc, cl, ct, Q, h
  | .tup _, e, Nn, d, X, C, Wx, sc, cl, ct, Q, h | .lst _, e, Nn, d, X, C, Wx, sc, cl, ct, Q, h | .mlst _, e, Nn, d, X, C, Wx, sc, cl, ct, Q, h | .ix .., e, Nn, d, X, C, Wx, sc, cl, ct, Q, h | .sl .., e, Nn, d, X, C, Wx, sc, cl, ct, Q, h | .slx .., e, Nn, d, X, C, Wx, sc, cl, ct, Q, h | .no, e, Nn, d, X, C, Wx, sc, cl, ct, Q, h | .rev _, e, Nn, d, X, C, Wx, sc, cl, ct, Q, h | .call .., e, Nn, d, X, C, Wx, sc, cl, ct, Q, h | .bi .., e, Nn, d, X, C, Wx, sc, cl, ct, Q, h | .meth .., e, Nn, d, X, C, Wx, sc, cl, ct, Q, h
  | .lc .., e, Nn, d, X, C, Wx, sc, cl, ct, Q, h | .lzip .., e, Nn, d, X, C, Wx, sc, cl, ct, Q, h | .lrng _, e, Nn, d, X, C, Wx, sc, cl, ct, Q, h | .rng _, e, Nn, d, X, C, Wx, sc, cl, ct, Q, h | .enum _, e, Nn, d, X, C, Wx, sc, cl, ct, Q, h | .zip .., e, Nn, d, X, C, Wx, sc, cl, ct, Q, h | .itr _, e, Nn, d, X, C, Wx, sc, cl, ct, Q, h | .clo .., e, Nn, d, X, C, Wx, sc, cl, ct, Q, h => by simp [ckA] at h
theorem sndO : ∀ (ir : E) (o : Option Expr) (Nn : Nm) (d : Nat) (X : Cx) (C : Cn) (Wx : WX) (sc : Scope) (cl : Bool), Ct X C P Nn d Wx → Sc X sc cl → ckO Nn X.N sc ir o = true → PO X o (tO C P (callD P d) Wx ir)
  | .no, o, Nn, d, X, C, Wx, sc, cl, ct, Q, h => by
    simp only [ckO] at h
    split at h
    · exact s_no
    · cases h
  | .itr a, o, Nn, d, X, C, Wx, sc, cl, ct, Q, h => by
    simp only [ckO] at h
    split at h
    · exact s_some (sndE a _ _ _ X C Wx sc cl ct Q h).1
    · cases h
  | .var _, e, Nn, d, X, C, Wx, sc, cl, ct, Q, h | .k _, e, Nn, d, X, C, Wx, sc, cl, ct, Q, h | .glob _, e, Nn, d, X, C, Wx, sc, cl, ct, Q, h | .fnv _, e, Nn, d, X, C, Wx, sc, cl, ct, Q, h | .bin .., e, Nn, d, X, C, Wx, sc, cl, ct, Q, h | .neg _, e, Nn, d, X, C, Wx, sc, cl, ct, Q, h | .cmp .., e, Nn, d, X, C, Wx, sc, cl, ct, Q, h | .chain .., e, Nn, d, X, C, Wx, sc, cl, ct, Q, h | .and .., e, Nn, d, X, C, Wx, sc, cl, ct, Q, h | .or .., e, Nn, d, X, C, Wx, sc, cl, ct, Q, h | .not _, e, Nn, d, X, C, Wx, sc, cl, ct, Q, h | .ife .., e, Nn, d, X, C, Wx, sc, cl, ct, Q, h
  | .tup _, e, Nn, d, X, C, Wx, sc, cl, ct, Q, h | .lst _, e, Nn, d, X, C, Wx, sc, cl, ct, Q, h | .mlst _, e, Nn, d, X, C, Wx, sc, cl, ct, Q, h | .ix .., e, Nn, d, X, C, Wx, sc, cl, ct, Q, h | .sl .., e, Nn, d, X, C, Wx, sc, cl, ct, Q, h | .slx .., e, Nn, d, X, C, Wx, sc, cl, ct, Q, h | .rev _, e, Nn, d, X, C, Wx, sc, cl, ct, Q, h | .call .., e, Nn, d, X, C, Wx, sc, cl, ct, Q, h | .bi .., e, Nn, d, X, C, Wx, sc, cl, ct, Q, h | .meth .., e, Nn, d, X, C, Wx, sc, cl, ct, Q, h
  | .lc .., e, Nn, d, X, C, Wx, sc, cl, ct, Q, h | .lzip .., e, Nn, d, X, C, Wx, sc, cl, ct, Q, h | .lrng _, e, Nn, d, X, C, Wx, sc, cl, ct, Q, h | .rng _, e, Nn, d, X, C, Wx, sc, cl, ct, Q, h | .enum _, e, Nn, d, X, C, Wx, sc, cl, ct, Q, h | .zip .., e, Nn, d, X, C, Wx, sc, cl, ct, Q, h | .clo .., e, Nn, d, X, C, Wx, sc, cl, ct, Q, h | .nil, e, Nn, d, X, C, Wx, sc, cl, ct, Q, h | .cons .., e, Nn, d, X, C, Wx, sc, cl, ct, Q, h => by simp [ckO] at h
theorem sndB : ∀ (ir : E) (es : List Expr) (Nn : Nm) (d : Nat) (X : Cx) (C : Cn) (Wx : WX) (sc : Scope) (cl : Bool), Ct X C P Nn d Wx → Sc X sc cl → ckB Nn X.N sc ir es = true → PTs X es (tBs C P (callD P d) Wx ir)
  | .nil, es, Nn, d, X, C, Wx, sc, cl, ct, Q, h => by
    simp only [ckB] at h
    split at h
    · exact s_bs0
    · cases h
  | .cons a b, es, Nn, d, X, C, Wx, sc, cl, ct, Q, h => by
    simp only [ckB] at h
    split at h
    · simp only [Bool.and_eq_true] at h
      obtain ⟨⟨h1, h2⟩, h3⟩ := h
      split at h3
      · exact s_bs1 ((sndE a _ _ _ X C Wx sc cl ct Q h1).2.1 h2)
      · cases h3
    · cases h
  | .var _, e, Nn, d, X, C, Wx, sc, cl, ct, Q, h | .k _, e, Nn, d, X, C, Wx, sc, cl, ct, Q, h | .glob _, e, Nn, d, X, C, Wx, sc, cl, ct, Q, h | .fnv _, e, Nn, d, X, C, Wx, sc, cl, ct, Q, h | .bin .., e, Nn, d, X, C, Wx, sc, cl, ct, Q, h | .neg _, e, Nn, d, X, C, Wx, sc, cl, ct, Q, h | .cmp .., e, Nn, d, X, C, Wx, sc, cl, ct, Q, h | .chain .., e, Nn, d, X, C, Wx, sc, cl, ct, Q, h | .and .., e, Nn, d, X, C, Wx, sc, cl, ct, Q, h | .or .., e, Nn, d, X, C, Wx, sc, cl, ct, Q, h | .not _, e, Nn, d, X, C, Wx, sc, cl, ct, Q, h | .ife .., e, Nn, d, X, C, Wx, sc, cl, ct, Q, h
  | .tup _, e, Nn, d, X, C, Wx, sc, cl, ct, Q, h | .lst _, e, Nn, d, X, C, Wx, sc, cl, ct, Q, h | .mlst _, e, Nn, d, X, C, Wx, sc, cl, ct, Q, h | .ix .., e, Nn, d, X, C, Wx, sc, cl, ct, Q, h | .sl .., e, Nn, d, X, C, Wx, sc, cl, ct, Q, h | .slx .., e, Nn, d, X, C, Wx, sc, cl, ct, Q, h | .no, e, Nn, d, X, C, Wx, sc, cl, ct, Q, h | .rev _, e, Nn, d, X, C, Wx, sc, cl, ct, Q, h | .call .., e, Nn, d, X, C, Wx, sc, cl, ct, Q, h | .bi .., e, Nn, d, X, C, Wx, sc, cl, ct, Q, h | .meth .., e, Nn, d, X, C, Wx, sc, cl, ct, Q, h
  | .lc .., e, Nn, d, X, C, Wx, sc, cl, ct, Q, h | .lzip .., e, Nn, d, X, C, Wx, sc, cl, ct, Q, h | .lrng _, e, Nn, d, X, C, Wx, sc, cl, ct, Q, h | .rng _, e, Nn, d, X, C, Wx, sc, cl, ct, Q, h | .enum _, e, Nn, d, X, C, Wx, sc, cl, ct, Q, h | .zip .., e, Nn, d, X, C, Wx, sc, cl, ct, Q, h | .itr _, e, Nn, d, X, C, Wx, sc, cl, ct, Q, h | .clo .., e, Nn, d, X, C, Wx, sc, cl, ct, Q, h => by simp [ckB] at h
theorem sndI : ∀ (ir : E) (tg e : Expr) (Nn : Nm) (d : Nat) (X : Cx) (C : Cn) (Wx : WX) (sc : Scope) (cl : Bool), Ct X C P Nn d Wx → Sc X sc cl → ckI Nn X.N sc ir tg e = true → PI X tg e (tI C P (callD P d) Wx ir)
  | .itr a, tg, e, Nn, d, X, C, Wx, sc, cl, ct, Q, h => by
    simp only [ckI] at h
    exact s_itr ct (sndE a _ _ _ X C Wx sc cl ct Q h).1
  | .rng l, tg, e, Nn, d, X, C, Wx, sc, cl, ct, Q, h => by
    simp only [ckI] at h
    split at h
    · simp only [Bool.and_eq_true, beq_iff_eq] at h
      obtain ⟨⟨rfl, h2⟩, h3⟩ := h
      obtain ⟨a, rfl, h4, h5⟩ := ckA_one h3
      exact s_rng1 ct (gl_of Q h2) (sndA (.cons a .nil) _ _ _ X C Wx sc cl ct Q h3) (star_cons h5)
    · simp only [Bool.and_eq_true, beq_iff_eq] at h
      obtain ⟨⟨rfl, h2⟩, h3⟩ := h
      obtain ⟨a, b, rfl, h4, h5, h6, h7⟩ := ckA_two h3
      exact s_rng2 ct (gl_of Q h2) (sndA (.cons a (.cons b .nil)) _ _ _ X C Wx sc cl ct Q h3) (by rw [star_cons h5, star_cons h7]; rfl) (star_cons h7)
    · cases h
  | .var _, tg, e, Nn, d, X, C, Wx, sc, cl, ct, Q, h | .k _, tg, e, Nn, d, X, C, Wx, sc, cl, ct, Q, h | .glob _, tg, e, Nn, d, X, C, Wx, sc, cl, ct, Q, h | .fnv _, tg, e, Nn, d, X, C, Wx, sc, cl, ct, Q, h | .bin .., tg, e, Nn, d, X, C, Wx, sc, cl, ct, Q, h | .neg _, tg, e, Nn, d, X, C, Wx, sc, cl, ct, Q, h | .cmp .., tg, e, Nn, d, X, C, Wx, sc, cl, ct, Q, h | .chain .., tg, e, Nn, d, X, C, Wx, sc, cl, ct, Q, h | .and .., tg, e, Nn, d, X, C, Wx, sc, cl, ct, Q, h | .or .., tg, e, Nn, d, X, C, Wx, sc, cl, ct, Q, h | .not _, tg, e, Nn, d, X, C, Wx, sc, cl, ct, Q, h | .ife .., tg, e, Nn, d, X, C, Wx, sc, cl, ct, Q, h
  | .tup _, tg, e, Nn, d, X, C, Wx, sc, cl, ct, Q, h | .lst _, tg, e, Nn, d, X, C, Wx, sc, cl, ct, Q, h | .mlst _, tg, e, Nn, d, X, C, Wx, sc, cl, ct, Q, h | .ix .., tg, e, Nn, d, X, C, Wx, sc, cl, ct, Q, h | .sl .., tg, e, Nn, d, X, C, Wx, sc, cl, ct, Q, h | .slx .., tg, e, Nn, d, X, C, Wx, sc, cl, ct, Q, h | .no, tg, e, Nn, d, X, C, Wx, sc, cl, ct, Q, h | .rev _, tg, e, Nn, d, X, C, Wx, sc, cl, ct, Q, h | .call .., tg, e, Nn, d, X, C, Wx, sc, cl, ct, Q, h | .bi .., tg, e, Nn, d, X, C, Wx, sc, cl, ct, Q, h | .meth .., tg, e, Nn, d, X, C, Wx, sc, cl, ct, Q, h
  | .lc .., tg, e, Nn, d, X, C, Wx, sc, cl, ct, Q, h | .lzip .., tg, e, Nn, d, X, C, Wx, sc, cl, ct, Q, h | .lrng _, tg, e, Nn, d, X, C, Wx, sc, cl, ct, Q, h | .enum _, tg, e, Nn, d, X, C, Wx, sc, cl, ct, Q, h | .zip .., tg, e, Nn, d, X, C, Wx, sc, cl, ct, Q, h | .clo .., tg, e, Nn, d, X, C, Wx, sc, cl, ct, Q, h | .nil, tg, e, Nn, d, X, C, Wx, sc, cl, ct, Q, h | .cons .., tg, e, Nn, d, X, C, Wx, sc, cl, ct, Q, h => by simp [ckI] at h
end
end
end G

set_option Elab.async false
set_option linter.all false
set_option autoImplicit false
set_option maxRecDepth 100000
set_option maxHeartbeats 2000000
/-! GB: statements, one by one. -/
namespace G
open PySem PySem.Spec PyProof.Rows L2
/-- what is wanted behind a statement -/
def ResS (C : Cn) (ρ : List Addr) (H : Hp) (r : RS) (D : Ends) (Wx : WX) : Prop :=
  match r with
  | .ok .nx env s => ∀ ρ' H' σ', Gr ρ H ρ' H' → SR C ρ' H' s → EnvR C ρ' H' env σ' → D.nx σ' H'
  | .ok .bk env s => ∀ ρ' H' σ', Gr ρ H ρ' H' → SR C ρ' H' s → EnvR C ρ' H' env σ' → D.bk σ' H'
  | .ok .ct env s => ∀ ρ' H' σ', Gr ρ H ρ' H' → SR C ρ' H' s → EnvR C ρ' H' env σ' → D.ct σ' H'
  | .ok (.rt w) _ s => ∀ ρ' H' v, Gr ρ H ρ' H' → SR C ρ' H' s → Rep C ρ' H' w v → D.rt v H'
  | .exc c _ env s => ∀ ρ' H' σ' a d, Gr ρ H ρ' H' → SR C ρ' H' s → EnvR C ρ' H' env σ' → C.ca c = some a → Wx (.ref a) d σ' H'
  | .err => False
section
variable {X : Cx} {C : Cn} {P : Pg} {Nn : Nm} {d : Nat} {Wx : WX} {call : Nat → List W → M W} {ρ ρ' : List Addr} {H H' : Hp} {D : Ends}
theorem ResS.mono {r : RS} (h : ResS C ρ H r D Wx) (g : Gr ρ H ρ' H') : ResS C ρ' H' r D Wx := by
  cases r with
  | err => exact h
  | exc c l env s => exact fun ρ2 H2 σ2 a d g2 => h ρ2 H2 σ2 a d (g.trans g2)
  | ok f env s => cases f <;> exact fun ρ2 H2 σ2 g2 => h ρ2 H2 σ2 (g.trans g2)
def tS (C : Cn) (P : Pg) (call : Nat → List W → M W) (Wx : WX) (ir : S) : TS := fun D σ H => ∃ ρ s env, EnvR C ρ H env σ ∧ SR C ρ H s ∧ ResS C ρ H (evS P call ir env s) D Wx
theorem _root_.L2.PS.imp {e : Stmt} {t t' : TS} (h : PS X e t) (k : ∀ D σ H, t' D σ H → t D σ H) : PS X e t' := ⟨fun pins s σ H D I q => h.run pins s σ H D I (k D σ H q)⟩
theorem _root_.L2.PSs.imp {e : List Stmt} {t t' : TS} (h : PSs X e t) (k : ∀ D σ H, t' D σ H → t D σ H) : PSs X e t' := ⟨fun pins s σ H D I q => h.run pins s σ H D I (k D σ H q)⟩
/-- a part ahead of the rest -/
theorem ResS.eS {α β : Type} {Rl : List Addr → Hp → α → β → Prop} {m : M α} {f : α → ST → RS} {s : ST} {env : Env} {σ : L2.St} (eR : EnvR C ρ H env σ) (h : ResS C ρ H (G.eS m env f s) D Wx) {K : β → Hp → Prop}
    (k : ∀ ρ1 H1 s1 a v, Gr ρ H ρ1 H1 → EnvR C ρ1 H1 env σ → SR C ρ1 H1 s1 → Rl ρ1 H1 a v → ResS C ρ1 H1 (f a s1) D Wx → K v H1) : ResG C Rl ρ H (m s) K (WE Wx σ) := by
  unfold G.eS at h
  cases e : m s with
  | ok a s1 =>
    rw [e] at h
    exact fun ρ1 H1 v g S r => k ρ1 H1 s1 a v g (eR.mono g) S r (h.mono g)
  | exc c l s1 => rw [e] at h; exact fun ρ1 H1 a d g S ec => h ρ1 H1 σ a d g S (eR.mono g) ec
  | err => rw [e] at h; exact h
theorem tE.eS {a : E} {f : W → ST → RS} {s : ST} {env : Env} {σ : L2.St} {K : V → Hp → Prop} (eR : EnvR C ρ H env σ) (S : SR C ρ H s) (h : ResS C ρ H (G.eS (evE P call a env) env f s) D Wx)
    (k : ∀ ρ1 H1 s1 x v, Gr ρ H ρ1 H1 → EnvR C ρ1 H1 env σ → SR C ρ1 H1 s1 → Rep C ρ1 H1 x v → ResS C ρ1 H1 (f x s1) D Wx → K v H1) : tE C P call Wx a σ H K :=
  ⟨ρ, s, env, eR, S, ResS.eS (Rl := RepR C) eR h k⟩
theorem tT.eS {a : E} {f : W → ST → RS} {s : ST} {env : Env} {σ : L2.St} {K : Bool → Hp → Prop} (eR : EnvR C ρ H env σ) (S : SR C ρ H s) (h : ResS C ρ H (G.eS (evE P call a env) env f s) D Wx)
    (hf : ∀ x s, (∀ b, x ≠ .bl b) → f x s = .err)
    (k : ∀ ρ1 H1 s1 b, Gr ρ H ρ1 H1 → EnvR C ρ1 H1 env σ → SR C ρ1 H1 s1 → ResS C ρ1 H1 (f (.bl b) s1) D Wx → K b H1) : tT C P call Wx a σ H K := by
  refine ⟨ρ, s, env, eR, S, ?_⟩
  unfold asB G.bnd
  unfold G.eS at h
  cases e : evE P call a env s with
  | ok x s1 =>
    rw [e] at h
    by_cases hb : ∃ b, x = .bl b
    · obtain ⟨b, rfl⟩ := hb
      exact fun ρ1 H1 v g S1 r => by
        have r : b = v := r
        subst r
        exact k ρ1 H1 s1 b g (eR.mono g) S1 (h.mono g)
    · have := hf x s1 (fun b q => hb ⟨b, q⟩)
      simp only [this] at h
      exact h.elim
  | exc c l s1 => rw [e] at h; exact fun ρ1 H1 a d g S ec => h ρ1 H1 σ a d g S (eR.mono g) ec
  | err => rw [e] at h; exact h
/-! blocks -/
theorem ss_nil : PSs X [] (tS C P call Wx .nil) := by
  refine pss_nil.imp fun D σ H ⟨ρ, s, env, eR, S, h⟩ => ?_
  simp only [evS] at h
  exact h ρ H σ Gr.refl S eR
theorem ss_seq {a b : S} {st : Stmt} {rest : List Stmt} (ha : PS X st (tS C P call Wx a)) (hb : PSs X rest (tS C P call Wx b)) : PSs X (st :: rest) (tS C P call Wx (.seq a b)) := by
  refine (pss_cons ha hb).imp fun D σ H ⟨ρ, s, env, eR, S, h⟩ => ?_
  refine ⟨ρ, s, env, eR, S, ?_⟩
  simp only [evS] at h
  cases e : evS P call a env s with
  | err => rw [e] at h; exact h
  | exc c l env' s' => rw [e] at h; exact h
  | ok f env' s' =>
    rw [e] at h
    cases f with
    | nx => exact fun ρ1 H1 σ1 g S1 eR1 => ⟨ρ1, s', env', eR1, S1, h.mono g⟩
    | bk => exact h
    | ct => exact h
    | rt w => exact h
theorem ss_pass {pos : Pos} : PS X (.Pass pos) (tS C P call Wx .pass) := by
  refine ps_pass.imp fun D σ H ⟨ρ, s, env, eR, S, h⟩ => ?_
  simp only [evS] at h
  exact h ρ H σ Gr.refl S eR
theorem ss_brk {pos : Pos} : PS X (.Break pos) (tS C P call Wx .brk) := by
  refine ps_break.imp fun D σ H ⟨ρ, s, env, eR, S, h⟩ => ?_
  simp only [evS] at h
  exact h ρ H σ Gr.refl S eR
theorem ss_cnt {pos : Pos} : PS X (.Continue pos) (tS C P call Wx .cnt) := by
  refine ps_continue.imp fun D σ H ⟨ρ, s, env, eR, S, h⟩ => ?_
  simp only [evS] at h
  exact h ρ H σ Gr.refl S eR
theorem ss_rtn {pos : Pos} : PS X (.Return none pos) (tS C P call Wx .rtn) := by
  refine ps_retN.imp fun D σ H ⟨ρ, s, env, eR, S, h⟩ => ?_
  simp only [evS] at h
  exact h ρ H .non Gr.refl S Rep.mkN
theorem ss_rt {a : E} {ea : Expr} {pos : Pos} (ha : PE X ea (tE C P call Wx a)) : PS X (.Return (some ea) pos) (tS C P call Wx (.rt a)) := by
  refine (ps_ret ha).imp fun D σ H ⟨ρ, s, env, eR, S, h⟩ => ?_
  simp only [evS] at h
  exact tE.eS eR S h fun ρ1 H1 s1 x v g eR1 S1 r h1 => h1 ρ1 H1 v Gr.refl S1 r
theorem ss_expr {a : E} {ea : Expr} {pos : Pos} (ha : PE X ea (tE C P call Wx a)) (hs : swapsWith ea none pos.line X.env = pure false) : PS X (.Expr ea pos) (tS C P call Wx (.expr a)) := by
  refine (ps_expr ha hs).imp fun D σ H ⟨ρ, s, env, eR, S, h⟩ => ?_
  simp only [evS] at h
  exact tE.eS eR S h fun ρ1 H1 s1 x v g eR1 S1 r h1 => h1 ρ1 H1 σ Gr.refl S1 eR1
theorem ss_ife {c : E} {a b : S} {ec : Expr} {sa sb : List Stmt} {pos : Pos} (hc : PT X ec (tT C P call Wx c)) (ha : PSs X sa (tS C P call Wx a)) (hb : PSs X sb (tS C P call Wx b)) : PS X (.If ec sa sb pos) (tS C P call Wx (.ife c a b)) := by
  refine (ps_if hc ha hb).imp fun D σ H ⟨ρ, s, env, eR, S, h⟩ => ?_
  simp only [evS] at h
  refine tT.eS eR S h (fun x s hx => ?_) fun ρ1 H1 s1 k g eR1 S1 h1 => ?_
  · cases x <;> first | rfl | exact (hx _ rfl).elim
  · cases k with
    | true => exact ⟨ρ1, s1, env, eR1, S1, h1⟩
    | false => exact ⟨ρ1, s1, env, eR1, S1, h1⟩
theorem ss_asg {t : T} {a : E} {tg ea : Expr} {pos : Pos} (ha : PE X ea (tE C P call Wx a)) (hg : PG X tg (tG C t)) (hs : swapsWithSole [tg] ea pos.line X.env = pure false) (hw : swappedStores [tg] ea X.env = pure none) (h1 : (assignEach [tg] X.env).map (·.2) = [assign tg X.env]) :
    PS X (.Assign [tg] ea pos) (tS C P call Wx (.asg t a)) := by
  refine (ps_asg ha hg hs hw h1).imp fun D σ H ⟨ρ, s, env, eR, S, h⟩ => ?_
  simp only [evS] at h
  refine tE.eS eR S h fun ρ1 H1 s1 x v g eR1 S1 r h1 => ?_
  split at h1
  · rename_i env' e
    exact ⟨ρ1, s1, env, x, env', eR1, S1, r, e, fun σ' eR' _ => h1 ρ1 H1 σ' Gr.refl S1 eR'⟩
  · exact h1.elim
/-- an assignment of a list made by a comprehension, on one line -/
theorem i_asgL {i : Nat} {a : E} {σ : L2.St} {H : Hp} {D : Ends} (h : tS C P call Wx (.asg (.v i) a) D σ H) : tAsg (tE C P call Wx a) (gName i) D σ H := by
  obtain ⟨ρ, s, env, eR, S, h⟩ := h
  simp only [evS] at h
  refine tE.eS eR S h fun ρ1 H1 s1 x v g eR1 S1 r h1 => ?_
  simp only [asg] at h1
  split at h1
  · rename_i env' e
    split at e
    · cases e
      exact h1 ρ1 H1 _ Gr.refl S1 (eR1.set r)
    · cases e
  · exact h1.elim
theorem ss_par2 {i j : Nat} {x y : Str} {a b : E} {ea eb : Expr} {px py pt pos : Pos} {kt k2 pt2} (ct : Ct X C P Nn d Wx) (hi : X.N[i]? = some x) (hj : X.N[j]? = some y) (hij : i ≠ j)
    (hx : X.env.scope.names.lookup x = some .local) (hy : X.env.scope.names.lookup y = some .local) (ha : PA X [ea, eb] (tA C P call Wx (.cons a (.cons b .nil))))
    (hw : swappedStores [.Tuple [.Name x px, .Name y py] kt pt] (.Tuple [ea, eb] k2 pt2) X.env = pure (some [x, y])) : PS X (.Assign [.Tuple [.Name x px, .Name y py] kt pt] (.Tuple [ea, eb] k2 pt2) pos) (tS C P call Wx (.par2 i j a b)) := by
  refine (ps_par ct.calm ct.nd hi hj hij hx hy ha hw).imp fun D σ H ⟨ρ, s, env, eR, S, h⟩ => ?_
  simp only [evS] at h
  refine ⟨ρ, s, env, eR, S, ?_⟩
  simp only [evA]
  have h' : ResS C ρ H (G.eS (G.bnd (evE P call a env) fun x => G.bnd (G.bnd (evE P call b env) fun x => G.bnd (G.ret []) fun xs => G.ret (x :: xs)) fun xs => G.ret (x :: xs)) env (fun l s'' => match l with
      | [x, y] => if i < env.length ∧ j < env.length ∧ i ≠ j then .ok .nx ((env.set i (some x)).set j (some y)) s'' else .err
      | _ => .err) s) D Wx := by
    unfold G.eS G.bnd G.ret at *
    cases e : evE P call a env s with
    | ok x s1 =>
      rw [e] at h
      simp only at h ⊢
      cases e2 : evE P call b env s1 with
      | ok y s2 => rw [e2] at h; exact h
      | exc c l s2 => rw [e2] at h; exact h
      | err => rw [e2] at h; exact h
    | exc c l s1 => rw [e] at h; exact h
    | err => rw [e] at h; exact h
  refine ResS.eS (Rl := RepsR C) eR h' fun ρ1 H1 s1 l vs g eR1 S1 r h1 => ?_
  match l, h1 with
  | [x, y], h1 =>
    obtain ⟨v, us, rfl, r1, r2⟩ := r.cons'
    obtain ⟨u, rfl, r3⟩ := rep1 r2
    dsimp only at h1
    split at h1
    · exact ⟨v, u, rfl, h1 ρ1 H1 _ Gr.refl S1 ((eR1.set r1).set r3)⟩
    · exact h1.elim
  | [], h1 => exact h1.elim
  | [_], h1 => exact h1.elim
  | _ :: _ :: _ :: _, h1 => exact h1.elim
theorem ss_par3 {i j l : Nat} {x y z : Str} {a b c : E} {ea eb ec : Expr} {px py pz pt pos : Pos} {kt k2 pt2} (ct : Ct X C P Nn d Wx) (hi : X.N[i]? = some x) (hj : X.N[j]? = some y) (hl : X.N[l]? = some z) (hij : i ≠ j) (hil : i ≠ l) (hjl : j ≠ l)
    (hx : X.env.scope.names.lookup x = some .local) (hy : X.env.scope.names.lookup y = some .local) (hz : X.env.scope.names.lookup z = some .local) (ha : PA X [ea, eb, ec] (tA C P call Wx (.cons a (.cons b (.cons c .nil)))))
    (hw : swappedStores [.Tuple [.Name x px, .Name y py, .Name z pz] kt pt] (.Tuple [ea, eb, ec] k2 pt2) X.env = pure (some [x, y, z])) : PS X (.Assign [.Tuple [.Name x px, .Name y py, .Name z pz] kt pt] (.Tuple [ea, eb, ec] k2 pt2) pos) (tS C P call Wx (.par3 i j l a b c)) := by
  refine (ps_par3 ct.calm ct.nd hi hj hl hij hil hjl hx hy hz ha hw).imp fun D σ H ⟨ρ, s, env, eR, S, h⟩ => ?_
  simp only [evS] at h
  refine ⟨ρ, s, env, eR, S, ?_⟩
  simp only [evA]
  have h' : ResS C ρ H (G.eS (G.bnd (evE P call a env) fun x => G.bnd (G.bnd (evE P call b env) fun x => G.bnd (G.bnd (evE P call c env) fun x => G.bnd (G.ret []) fun xs => G.ret (x :: xs)) fun xs => G.ret (x :: xs)) fun xs => G.ret (x :: xs)) env (fun q s'' => match q with
      | [x, y, z] => if i < env.length ∧ j < env.length ∧ l < env.length ∧ i ≠ j ∧ i ≠ l ∧ j ≠ l then .ok .nx (((env.set i (some x)).set j (some y)).set l (some z)) s'' else .err
      | _ => .err) s) D Wx := by
    unfold G.eS G.bnd G.ret at *
    cases e : evE P call a env s with
    | ok x s1 =>
      rw [e] at h
      simp only at h ⊢
      cases e2 : evE P call b env s1 with
      | ok y s2 =>
        rw [e2] at h
        simp only at h ⊢
        cases e3 : evE P call c env s2 with
        | ok z s3 => rw [e3] at h; exact h
        | exc c l s2 => rw [e3] at h; exact h
        | err => rw [e3] at h; exact h
      | exc c l s2 => rw [e2] at h; exact h
      | err => rw [e2] at h; exact h
    | exc c l s1 => rw [e] at h; exact h
    | err => rw [e] at h; exact h
  refine ResS.eS (Rl := RepsR C) eR h' fun ρ1 H1 s1 l vs g eR1 S1 r h1 => ?_
  match l, h1 with
  | [x, y, z], h1 =>
    obtain ⟨v, us, rfl, r1, r2⟩ := r.cons'
    obtain ⟨v2, us2, rfl, r3, r4⟩ := r2.cons'
    obtain ⟨u, rfl, r5⟩ := rep1 r4
    dsimp only at h1
    split at h1
    · exact ⟨v, v2, u, rfl, h1 ρ1 H1 _ Gr.refl S1 (((eR1.set r1).set r3).set r5)⟩
    · exact h1.elim
  | [], h1 => exact h1.elim
  | [_], h1 => exact h1.elim
  | [_, _], h1 => exact h1.elim
  | _ :: _ :: _ :: _ :: _, h1 => exact h1.elim
/-- o[i] = e -/
theorem ss_seti {o i e : E} {eo ei ee : Expr} {tpos pos : Pos} (ho : PE X eo (tE C P call Wx o)) (hi : PE X ei (tE C P call Wx i)) (he : PE X ee (tE C P call Wx e)) (hp : plainIx ei = true)
    (hs : swapsWithSole [.Subscript eo ei tpos] ee pos.line X.env = pure false) (hw : swappedStores [.Subscript eo ei tpos] ee X.env = pure none) : PS X (.Assign [.Subscript eo ei tpos] ee pos) (tS C P call Wx (.seti o i e)) := by
  refine (ps_asg he (pg_sub ho hi set_list (by cases ei <;> first | (intro v; rfl) | (simp [plainIx] at hp))) hs hw rfl).imp fun D σ H ⟨ρ, s, env, eR, S, h⟩ => ?_
  simp only [evS] at h
  refine tE.eS eR S h fun ρ1 H1 s1 w v g1 eR1 S1 r1 h1 => ?_
  refine tE.eS eR1 S1 h1 fun ρ2 H2 s2 x u g2 eR2 S2 r2 h2 => ?_
  refine tE.eS eR2 S2 h2 fun ρ3 H3 s3 y k g3 eR3 S3 r3 h3 => ?_
  cases x <;> try exact h3.elim
  rename_i n
  cases y <;> try exact h3.elim
  rename_i j
  dsimp only at h3
  split at h3
  · rename_i ys es
    split at h3
    · rename_i jj ej
      obtain ⟨p, ep, rfl⟩ := (r2.mono g3).ref
      obtain ⟨p', vs, a1, a2, a3⟩ := S3.at_ n ys es
      rw [ep] at a1; cases a1
      have rw' := (r1.mono g2).mono g3
      obtain ⟨g, S'⟩ := S3.write es ep a2 (a3.set jj rw')
      have e5 : ixN vs.length j = some jj := by rw [ix_eq, ← a3.length]; exact ej
      exact ⟨p, vs, j, jj, rfl, r3.int, a2, e5, h3 ρ3 _ σ g S' (eR3.mono g)⟩
    · exact h3.elim
  · exact h3.elim
/-! loops -/
theorem ss_whl {c : E} {b : S} {ec : Expr} {sb : List Stmt} {pos : Pos} (hp : PassesOwn (model X.prog X.w) X.A X.env X.xe) (hc : PT X ec (tT C P call Wx c)) (hb : PSs X sb (tS C P call Wx b)) : PS X (.While ec sb [] pos) (tS C P call Wx (.whl c b)) := by
  refine (ps_while hp hc hb).imp fun D σ H ⟨ρ, s, env, eR, S, h⟩ => ?_
  simp only [evS] at h
  refine ⟨fun m σ H => ∃ ρ s env, EnvR C ρ H env σ ∧ SR C ρ H s ∧ ResS C ρ H (whileS (fun env => evE P call c env) (fun env s => evS P call b env s) m env s) D Wx, ⟨P.fuel, ρ, s, env, eR, S, h⟩, ?_⟩
  rintro m σ H ⟨ρ, s, env, eR, S, h⟩
  cases m with
  | zero => exact h.elim
  | succ m =>
    simp only [whileS] at h
    refine tT.eS eR S h (fun x s hx => ?_) fun ρ1 H1 s1 k g eR1 S1 h1 => ?_
    · cases x <;> first | rfl | exact (hx _ rfl).elim
    · cases k with
      | false => exact h1 ρ1 H1 σ Gr.refl S1 eR1
      | true =>
        refine ⟨fun σ' H' => ∃ ρ s env, EnvR C ρ H' env σ' ∧ SR C ρ H' s ∧ ResS C ρ H' (whileS (fun env => evE P call c env) (fun env s => evS P call b env s) m env s) D Wx, fun σ' H' q => ⟨m, Nat.lt_succ_self m, q⟩, ρ1, s1, env, eR1, S1, ?_⟩
        dsimp only at h1
        cases e : evS P call b env s1 with
        | err => rw [e] at h1; exact h1
        | exc c l env' s' => rw [e] at h1; exact h1
        | ok f env' s' =>
          rw [e] at h1
          cases f with
          | nx => exact fun ρ2 H2 σ2 g2 S2 eR2 => ⟨ρ2, s', env', eR2, S2, h1.mono g2⟩
          | ct => exact fun ρ2 H2 σ2 g2 S2 eR2 => ⟨ρ2, s', env', eR2, S2, h1.mono g2⟩
          | bk => exact h1
          | rt w => exact h1
/-- the rounds by index -/
def forI (src : Src) (b : W → Env → ST → RS) : Nat → Nat → Env → ST → RS
  | 0, _, _, _ => .err
  | m + 1, i, env, s => match srcAt src i s with
    | none => .err
    | some none => .ok .nx env s
    | some (some x) => match b x env s with
      | .ok .nx env' s' => forI src b m (i + 1) env' s'
      | .ok .ct env' s' => forI src b m (i + 1) env' s'
      | .ok .bk env' s' => .ok .nx env' s'
      | .ok (.rt w) env' s' => .ok (.rt w) env' s'
      | .exc c l env' s' => .exc c l env' s'
      | .err => .err
theorem forS_I (b : W → Env → ST → RS) (all : List W) : ∀ (xs : List W) (i : Nat) (env : Env) (s : ST), all.drop i = xs → forS b xs env s = forI (.row all) b (xs.length + 1) i env s
  | [], i, env, s, hd => by
    have hl : all.length ≤ i := List.drop_eq_nil_iff.mp hd
    simp only [forS, forI, srcAt, List.getElem?_eq_none hl]
  | x :: xs, i, env, s, hd => by
    have hx : all[i]? = some x := by
      have := congrArg (fun l => l[0]?) hd
      simpa [List.getElem?_drop] using this
    have hd' : all.drop (i + 1) = xs := by
      have := congrArg (List.drop 1) hd
      simpa [List.drop_drop] using this
    have ih := fun env s => forS_I b all xs (i + 1) env s hd'
    rw [List.length_cons]
    unfold forS forI
    simp only [srcAt, hx]
    cases e : b x env s with
    | err => rfl
    | exc c l env' s' => rfl
    | ok f env' s' =>
      cases f with
      | nx => exact ih env' s'
      | ct => exact ih env' s'
      | bk => rfl
      | rt w => rfl
theorem forL_I (b : W → Env → ST → RS) (src : Src) (g : Nat → W → W) (n : Nat) (hs : ∀ i s, srcAt src i s = (liveAt n i s).map fun o => o.map (g i)) : ∀ (k i : Nat) (env : Env) (s : ST), forL g b n k i env s = forI src b k i env s
  | 0, i, env, s => rfl
  | k + 1, i, env, s => by
    have ih := fun env s => forL_I b src g n hs k (i + 1) env s
    unfold forL forI
    rw [hs]
    cases e0 : liveAt n i s with
    | none => rfl
    | some o =>
      cases o with
      | none => rfl
      | some x =>
        simp only [Option.map_some]
        cases e : b (g i x) env s with
        | err => rfl
        | exc c l env' s' => rfl
        | ok f env' s' =>
          cases f with
          | nx => exact ih env' s'
          | ct => exact ih env' s'
          | bk => rfl
          | rt w => rfl
theorem forA_I (b : W → Env → ST → RS) (fuel : Nat) (src : Src) (env : Env) (s : ST) : ∃ m, forA b fuel src env s = forI src b m 0 env s := by
  cases src with
  | row xs => exact ⟨_, forS_I b xs xs 0 env s rfl⟩
  | live n => exact ⟨fuel, forL_I b _ _ n (fun i s => by simp only [srcAt]; cases liveAt n i s with | none => rfl | some o => cases o <;> rfl) fuel 0 env s⟩
  | liveE n => exact ⟨fuel, forL_I b _ _ n (fun i s => rfl) fuel 0 env s⟩
def stepS (P : Pg) (call : Nat → List W → M W) (t : T) (b : S) : W → Env → ST → RS := fun w env s => match asg t w env with
  | some env' => evS P call b env' s
  | none => .err
theorem ss_for {t : T} {it : E} {b : S} {tg iter : Expr} {sb : List Stmt} {pos : Pos} (hp : PassesOwn (model X.prog X.w) X.A X.env X.xe) (hc : X.calm = true) (hi : PI X tg iter (tI C P call Wx it)) (hg : PG X tg (tG C t)) (hb : PSs X sb (tS C P call Wx b))
    (hs : ∀ x, foldedSetIterable iter X.env x = pure x) : PS X (.For tg iter sb [] pos) (tS C P call Wx (.forr t it b)) := by
  refine (ps_for hp hc hi hg hb hs).imp fun D σ H ⟨ρ, s, env, eR, S, h⟩ => ?_
  simp only [evS] at h
  refine ⟨ρ, s, env, eR, S, ResS.eS (Rl := LkA C) eR h fun ρ1 H1 s1 src J g1 eR1 S1 lk h1 => ?_⟩
  have h1 : ResS C ρ1 H1 (forA (stepS P call t b) P.fuel src env s1) D Wx := h1
  obtain ⟨m0, e0⟩ := forA_I (stepS P call t b) P.fuel src env s1
  rw [e0] at h1
  refine ⟨fun i m σ H => ∃ ρ s env, Gr ρ1 H1 ρ H ∧ EnvR C ρ H env σ ∧ SR C ρ H s ∧ ResS C ρ H (forI src (stepS P call t b) m i env s) D Wx, ⟨m0, ρ1, s1, env, Gr.refl, eR1, S1, h1⟩, ?_⟩
  rintro i m σ H ⟨ρ2, s2, env2, g2, eR2, S2, h2⟩
  cases m with
  | zero => exact h2.elim
  | succ m =>
    simp only [forI] at h2
    cases esrc : srcAt src i s2 with
    | none => rw [esrc] at h2; exact h2.elim
    | some o =>
      rw [esrc] at h2
      have lki := lk.1 ρ2 H s2 i o g2 S2 esrc
      cases o with
      | none => exact .inl ⟨lki, h2 ρ2 H σ Gr.refl S2 eR2⟩
      | some x =>
        obtain ⟨jgo, jyld⟩ := lki
        refine .inr ⟨jgo, fun σ' H' => ∃ ρ s env, Gr ρ1 H1 ρ H' ∧ EnvR C ρ H' env σ' ∧ SR C ρ H' s ∧ ResS C ρ H' (forI src (stepS P call t b) m (i + 1) env s) D Wx, fun σ' H' q => ⟨m, Nat.lt_succ_self m, q⟩, fun v H3 hy => ?_⟩
        obtain ⟨g3, S3, rx⟩ := jyld v H3 hy
        dsimp only at h2
        unfold stepS at h2
        cases ea : asg t x env2 with
        | none => rw [ea] at h2; exact h2.elim
        | some env' =>
          rw [ea] at h2
          dsimp only at h2
          refine ⟨ρ2, s2, env2, x, env', eR2.mono g3, S3, rx, ea, fun σ' eR' _ => ⟨ρ2, s2, env', eR', S3, ?_⟩⟩
          have gA := g2.trans g3
          have h3 := h2.mono g3
          cases e : evS P call b env' s2 with
          | err => rw [e] at h3; exact h3
          | exc c l env' s' => rw [e] at h3; exact h3
          | ok f env' s' =>
            rw [e] at h3
            cases f with
            | nx => exact fun ρ4 H4 σ4 g4 S4 eR4 => ⟨ρ4, s', env', gA.trans g4, eR4, S4, h3.mono g4⟩
            | ct => exact fun ρ4 H4 σ4 g4 S4 eR4 => ⟨ρ4, s', env', gA.trans g4, eR4, S4, h3.mono g4⟩
            | bk => exact h3
            | rt w => exact h3
/-! raise -/
/-- an own class of errors without arguments kept -/
structure Er (X : Cx) (C : Cn) (xs : List Str) : Prop where
  at_ : ∀ (n : Nat) (x : Str), xs[n]? = some x → ∃ (a : Addr) (B newId initId : String) (bmB : List Value), C.ca n = some a ∧ X.mg x = some (.ref a) ∧ ExcBaseFacts B newId initId bmB ∧ PySem.W.excIn X.K a bmB newId = true ∧ PySem.W.keepIn X.K (.ref a) = true ∧
    PySem.W.subIn X.K (.ref a) (.type "BaseException") = some true ∧ PySem.W.typeIn X.K (.ref a) = some (.type "type")
theorem ss_raise {xs : List Str} {n : Nat} {x m : Str} {j : Nat} {p p2 pos pos' : Pos} (ct : Ct X C P Nn d Wx) (er : Er X C xs) (hn : xs[n]? = some x) (hg : Gl X x) (hdb : (x == ("__debug__" : Str)) = false) :
    PS X (.Raise (some (.Call (.Name x p) [.Constant (.str m) j p2] [] pos)) none pos') (tS C P call Wx (.raise n .nil)) := by
  obtain ⟨a, B, newId, initId, bmB, e1, e2, F, q, k1, k2, k3⟩ := er.at_ n x hn
  refine (ps_raise ct.calm ct.tk (pmk_own F q e2 k1 (raises_own k2 k3) hg hdb)).imp fun D σ H ⟨ρ, s, env, eR, S, h⟩ => ?_
  simp only [evS, evA] at h
  exact h ρ H σ a none Gr.refl S eR e1
end
end G

set_option Elab.async false
set_option linter.all false
set_option autoImplicit false
set_option maxRecDepth 100000
set_option maxHeartbeats 4000000
/-! GC: the checker of statements, and that what it lets pass is sound. -/
namespace G
open PySem PySem.Spec PyProof.Rows L2
def isComp : Expr → Bool
  | .ListComp .. | .SetComp .. | .DictComp .. => true
  | _ => false
def isStar : Expr → Bool
  | .Starred .. => true
  | _ => false
def swName (sc : Scope) (l : Nat) : Expr → Option Str
  | .Name id pos => if sc.names.lookup id == some .local && pos.line == l then some id else none
  | _ => none
/-- the stores are not exchanged -/
def noSw (sc : Scope) (tg v : Expr) : Bool :=
  match tg, v with
  | .Tuple ts _ _, .Tuple vs _ _ => !(ts.length == 2 || ts.length == 3) || vs.length != ts.length || vs.any isStar || (ts.filterMap (swName sc ((ts.head?.map (·.pos.line)).getD 0))).length != ts.length || vs.all (foldedForSure 8)
  | .List .., .Tuple .. => false
  | _, _ => true
theorem isStar_eq : (fun (x : Expr) => match x with | .Starred .. => true | _ => false) = isStar := by
  funext e
  cases e <;> rfl
theorem swName_eq (env : PySem.Env) (l : Nat) : (fun (x : Expr) => match x with | .Name id pos => if env.kindOf id == some .local && pos.line == l then some id else none | _ => none) = swName env.scope l := by
  funext e
  cases e <;> rfl
theorem noSw_ok {tg v : Expr} {env : PySem.Env} (h : noSw env.scope tg v = true) : swappedStores [tg] v env = pure none := by
  unfold swappedStores
  unfold noSw at h
  split at h
  · rename_i ts k p vs k2 p2
    dsimp only
    by_cases h1 : (!(ts.length == 2 || ts.length == 3) || vs.length != ts.length || env.blockKind != .function) = true
    · rw [if_pos h1]
    · rw [if_neg h1]
      simp only [Bool.or_eq_true, not_or] at h1
      by_cases h2 : (vs.any isStar) = true
      · rw [if_pos (by first | exact h2 | (rw [← isStar_eq] at h2; exact h2))]
      · rw [if_neg (by first | exact h2 | (rw [← isStar_eq] at h2; exact h2))]
        by_cases h3 : ((ts.filterMap (swName env.scope ((ts.head?.map (·.pos.line)).getD 0))).length != ts.length) = true
        · rw [if_pos]
          rw [← swName_eq] at h3
          simp only [Bool.or_eq_true]
          exact .inl h3
        · simp only [Bool.or_eq_true] at h
          rcases h with (((h | h) | h) | h) | h
          · exact (h1.1.1 h).elim
          · exact (h1.1.2 h).elim
          · exact (h2 h).elim
          · exact (h3 h).elim
          · rw [if_pos h]
            split <;> rfl
  · cases h
  · rename_i n1 n2
    split
    · rename_i ts vs e
      exfalso
      revert e
      cases tg <;> cases v <;> intro e <;> first | (exact n1 _ _ _ _ _ _ rfl rfl) | (exact n2 _ _ _ _ _ rfl rfl) | cases e
    · rfl
theorem sw2_ok {x y : Str} {a b : Expr} {px py pt pt2 : Pos} {kt k2} {env : PySem.Env} (hk : env.scope.kind = .function) (hx : env.scope.names.lookup x = some .local) (hy : env.scope.names.lookup y = some .local) (hl : (py.line == px.line) = true) (hxy : (x == y) = false)
    (ha : notStar a = true) (hb : notStar b = true) (hf : [a, b].all (foldedForSure 8) = false) (hc : [a, b].all (constantsAlone 8) = false) :
    swappedStores [.Tuple [.Name x px, .Name y py] kt pt] (.Tuple [a, b] k2 pt2) env = pure (some [x, y]) := by
  have kx : env.kindOf x = some .local := hx
  have ky : env.kindOf y = some .local := hy
  have hb' : env.blockKind = .function := by unfold PySem.Env.blockKind; rw [hk]; rfl
  have st : ([a, b].any fun | .Starred .. => true | _ => false) = false := by
    cases a <;> cases b <;> first | rfl | (simp [notStar] at ha; done) | (simp [notStar] at hb; done)
  unfold swappedStores
  simp only [hb', st, hf, hc, List.filterMap, kx, ky, Expr.pos, List.head?, Option.map, Option.getD, hl, beq_self_eq_true, Bool.and_self, Bool.and_true, if_true, List.length, List.eraseDups, List.eraseDupsBy, List.eraseDupsBy.loop, List.any, hxy]
  rw [show (y == x) = false from by rw [Bool.eq_false_iff] at hxy ⊢; exact fun q => hxy (by simpa using (eq_of_beq q).symm)]
  refine (if_neg (by decide)).trans ?_
  refine (if_neg (by rw [Bool.not_eq_true]; exact st)).trans ?_
  refine (if_neg ?_).trans ?_
  · rw [Bool.not_eq_true]; rfl
  · rfl
theorem sw3_ok {x y z : Str} {a b c : Expr} {px py pz pt pt2 : Pos} {kt k2} {env : PySem.Env} (hk : env.scope.kind = .function) (hx : env.scope.names.lookup x = some .local) (hy : env.scope.names.lookup y = some .local) (hz : env.scope.names.lookup z = some .local) (hl : (py.line == px.line) = true) (hl2 : (pz.line == px.line) = true)
    (hyx : (y == x) = false) (hzx : (z == x) = false) (hzy : (z == y) = false)
    (ha : notStar a = true) (hb : notStar b = true) (hcc : notStar c = true) (hf : [a, b, c].all (foldedForSure 8) = false) (hc : [a, b, c].all (constantsAlone 8) = false) :
    swappedStores [.Tuple [.Name x px, .Name y py, .Name z pz] kt pt] (.Tuple [a, b, c] k2 pt2) env = pure (some [x, y, z]) := by
  have kx : env.kindOf x = some .local := hx
  have ky : env.kindOf y = some .local := hy
  have kz : env.kindOf z = some .local := hz
  have hb' : env.blockKind = .function := by unfold PySem.Env.blockKind; rw [hk]; rfl
  have st : ([a, b, c].any fun | .Starred .. => true | _ => false) = false := by
    have e1 : ([a, b, c].any isStar) = false := by
      have q : ∀ e, notStar e = true → isStar e = false := fun e h => by cases e <;> first | rfl | (simp [notStar] at h)
      simp only [List.any, q a ha, q b hb, q c hcc, Bool.or_self]
    rw [← isStar_eq] at e1
    exact e1
  unfold swappedStores
  simp only [hb', st, hf, hc, List.filterMap, kx, ky, kz, Expr.pos, List.head?, Option.map, Option.getD, hl, hl2, beq_self_eq_true, Bool.and_self, Bool.and_true, if_true, List.length, List.eraseDups, List.eraseDupsBy, List.eraseDupsBy.loop, List.any, hyx, hzx, hzy]
  refine (if_neg (by decide)).trans ?_
  refine (if_neg (by rw [Bool.not_eq_true]; exact st)).trans ?_
  refine (if_neg ?_).trans ?_
  · rw [Bool.not_eq_true]; rfl
  · rfl
theorem swF {e : Expr} {t : Option Expr} {l : Nat} {env : PySem.Env} (h : isComp e = false) : swapsWith e t l env = pure false := by
  cases e <;> first | rfl | (simp [isComp] at h)
/-! ### the checker -/
def ckTop : T → Expr → Expr → Scope → Bool
  | .v _, .Name _ _, _, _ => true
  | _, tg, v, sc => !isComp v
def neS (x y : Str) : Bool := !(x == y)
section
variable (Nn : Nm) (xs : List Str) (N : List Str) (sc : Scope)
mutual
def ck1 : S → Stmt → Bool
  | .asg t e, st => match st with
    | .Assign [tg] v _ => ckT sc true N t tg && ckE Nn N sc e v && noSw sc tg v && ckTop t tg v sc
    | _ => false
  | .par2 i j a b, st => match st with
    | .Assign [.Tuple [.Name x px, .Name y py] _ _] (.Tuple [ea, eb] _ _) _ => N[i]? == some x && N[j]? == some y && !(i == j) && lookIs sc x .local && lookIs sc y .local && py.line == px.line && !(x == y) && notStar ea && notStar eb &&
        !([ea, eb].all (foldedForSure 8)) && !([ea, eb].all (constantsAlone 8)) && ckE Nn N sc a ea && ckE Nn N sc b eb
    | _ => false
  | .par3 i j l a b c, st => match st with
    | .Assign [.Tuple [.Name x px, .Name y py, .Name z pz] _ _] (.Tuple [ea, eb, ec] _ _) _ => N[i]? == some x && N[j]? == some y && N[l]? == some z && !(i == j) && !(i == l) && !(j == l) && lookIs sc x .local && lookIs sc y .local && lookIs sc z .local && py.line == px.line && pz.line == px.line &&
        !(y == x) && !(z == x) && !(z == y) && notStar ea && notStar eb && notStar ec && !([ea, eb, ec].all (foldedForSure 8)) && !([ea, eb, ec].all (constantsAlone 8)) && ckE Nn N sc a ea && ckE Nn N sc b eb && ckE Nn N sc c ec
    | _ => false
  | .seti o i e, st => match st with
    | .Assign [.Subscript eo ei _] v _ => ckE Nn N sc o eo && ckE Nn N sc i ei && ckE Nn N sc e v && plainIx ei && !isComp v
    | _ => false
  | .expr e, st => match st with
    | .Expr v _ => ckE Nn N sc e v && !isComp v
    | _ => false
  | .rt e, st => match st with
    | .Return (some v) _ => ckE Nn N sc e v
    | _ => false
  | .rtn, st => match st with
    | .Return none _ => true
    | _ => false
  | .ife c a b, st => match st with
    | .If t p q _ => ckE Nn N sc c t && ptOk t && ckS a p && ckS b q
    | _ => false
  | .whl c b, st => match st with
    | .While t p [] _ => ckE Nn N sc c t && ptOk t && ckS b p
    | _ => false
  | .forr t it b, st => match st with
    | .For tg iter p [] _ => ckT sc true N t tg && ckI Nn N sc it tg iter && ckS b p && notSet iter
    | _ => false
  | .brk, st => match st with
    | .Break _ => true
    | _ => false
  | .cnt, st => match st with
    | .Continue _ => true
    | _ => false
  | .pass, st => match st with
    | .Pass _ => true
    | _ => false
  | .raise n l, st => match st with
    | .Raise (some (.Call (.Name x _) [.Constant (.str _) _ _] [] _)) none _ => xs[n]? == some x && lookIs sc x .globalImplicit && okName x && (match l with | .nil => true | _ => false)
    | _ => false
  | _, _ => false
termination_by structural e => e
def ckS : S → List Stmt → Bool
  | .nil, l => match l with
    | [] => true
    | _ => false
  | .seq a b, l => match l with
    | st :: rest => ck1 a st && ckS b rest
    | _ => false
  | _, _ => false
termination_by structural e => e
end
end
section
variable {X : Cx} {C : Cn} {P : Pg} {Nn : Nm} {d : Nat} {Wx : WX} {xs : List Str}
theorem top_each {t : T} {tg : Expr} {sc : Scope} {cl : Bool} {N : List Str} {env : PySem.Env} (h : ckT sc cl N t tg = true) : (assignEach [tg] env).map (·.2) = [assign tg env] := by rw [asgEach h]; rfl
/-- name = [..] -/
theorem snd_setLc {i : Nat} {t : T} {it ifs el : E} {own : List Nat} {y : Str} {py spos cpos : Pos} {elt : Expr} {gs : List Comprehension} {scope : Scope} (ct : Ct X C P Nn d Wx) (Q : Sc X X.env.scope true) (hk : X.env.scope.kind = .function)
    (hT : ckT X.env.scope true X.N (.v i) (.Name y py) = true) (h : ckE Nn X.N X.env.scope (.lc t it ifs el own) (.ListComp elt gs scope cpos) = true) :
    PS X (.Assign [.Name y py] (.ListComp elt gs scope cpos) spos) (tS C P (callD P d) Wx (.asg (.v i) (.lc t it ifs el own))) := by
  have hb : X.env.blockKind = .function := by unfold PySem.Env.blockKind; rw [hk]; rfl
  by_cases hsw : (X.env.kindOf y == some .local && py.line == cpos.line && !(scope.names.any fun (n, k) => n == y && (k == .local || k == .cell))) = true
  · have hsw' : swapsWith (.ListComp elt gs scope cpos) (some (.Name y py)) spos.line X.env = pure true := by
      unfold swapsWith
      simp only [hb, Expr.pos, beq_self_eq_true, Bool.true_and]
      rw [hsw]
    simp only [Bool.and_eq_true, beq_iff_eq] at hsw
    have hyl : X.env.scope.names.lookup y = some .local := hsw.1.1
    simp only [ckT, Bool.and_eq_true, beq_iff_eq] at hT
    simp only [ckE] at h
    split at h
    · rename_i q
      cases q
      simp only [Bool.and_eq_true] at h
      obtain ⟨⟨⟨⟨⟨⟨h1, h2⟩, h3⟩, h4⟩, h5⟩, h6⟩, h7⟩ := h
      have ho : ∀ i ∈ tgV t, i ∈ own := fun i hi => by simpa using List.all_eq_true.mp h2 i hi
      have eo : (ownOf X.N own).map (·.2) = own := by unfold ownOf; rw [List.map_map]; exact List.map_id _
      refine (ps_setLc ct.calm ct.nd hT.1 hyl hsw' (sndI it _ _ _ _ X C Wx _ _ ct Q h4) (blk_ok Q h1)
        (fun s H D c fp => PG.ex fun xi => s_tg ((ct.blk xi s H _ _ fp).hK) ct.nd ct.calm (Sc.blk s H D c fp) t _ h3)
        (fun s H D c fp => PTs.ex fun xi => sndB ifs _ _ _ _ (C.at xi) WF _ false (ct.blk xi s H _ _ fp) (Sc.blk s H D c fp) h5)
        (fun s H D c fp => PE.ex fun xi => (sndE el _ _ _ _ (C.at xi) WF _ false (ct.blk xi s H _ _ fp) (Sc.blk s H D c fp) h6).1) (fold_no h7)).imp fun D σ H q => ?_
      have q := i_asgL q
      rw [eo]
      exact i_lc (Q := fun x H1 => gName i x σ H1 D.nx) ho q
    · cases h
  · have hsw' : swapsWith (.ListComp elt gs scope cpos) (some (.Name y py)) spos.line X.env = pure false := by
      unfold swapsWith
      simp only [hb, Expr.pos, beq_self_eq_true, Bool.true_and]
      rw [Bool.not_eq_true] at hsw
      rw [hsw]
    exact ss_asg (sndE _ _ _ _ X C Wx _ _ ct Q h).1 (s_tg ct.hK ct.nd ct.calm Q _ _ hT) hsw' rfl rfl
mutual
theorem snd1 (hk : X.env.scope.kind = .function) (er : Er X C xs) (hp : PassesOwn (model X.prog X.w) X.A X.env X.xe) (ct : Ct X C P Nn d Wx) (Q : Sc X X.env.scope true) : ∀ (ir : S) (st : Stmt), ck1 Nn xs X.N X.env.scope ir st = true → PS X st (tS C P (callD P d) Wx ir)
  | .asg t e, st, h => by
    simp only [ck1] at h
    split at h
    · rename_i tg v pos
      simp only [Bool.and_eq_true] at h
      obtain ⟨⟨⟨h1, h2⟩, h3⟩, h4⟩ := h
      by_cases hc : isComp v = true
      · cases t with
        | v i =>
          cases tg <;> try (simp [ckT] at h1; done)
          cases v <;> try (simp [isComp] at hc; done)
          · cases e <;> try (simp [ckE] at h2; done)
            · rename_i w
              cases w <;> simp [ckE, ckK] at h2
            · exact snd_setLc ct Q hk h1 h2
          · cases e <;> try (simp [ckE] at h2; done)
            rename_i w
            cases w <;> simp [ckE, ckK] at h2
          · cases e <;> try (simp [ckE] at h2; done)
            rename_i w
            cases w <;> simp [ckE, ckK] at h2
        | nil => simp [ckTop, hc] at h4
        | cons a b => simp [ckTop, hc] at h4
      · have hc : isComp v = false := by simpa using hc
        exact ss_asg (sndE e v _ _ X C Wx _ _ ct Q h2).1 (s_tg ct.hK ct.nd ct.calm Q t tg h1) (swF hc) (noSw_ok h3) (top_each h1)
    · cases h
  | .par2 i j a b, st, h => by
    simp only [ck1] at h
    split at h
    · simp only [Bool.and_eq_true, beq_iff_eq, lookIs, Bool.not_eq_true', bne_iff_ne] at h
      obtain ⟨⟨⟨⟨⟨⟨⟨⟨⟨⟨⟨⟨h1, h2⟩, h3⟩, h4⟩, h5⟩, h6⟩, h7⟩, h8⟩, h9⟩, h10⟩, h11⟩, h12⟩, h13⟩ := h
      have A := (sndE a _ _ _ X C Wx _ _ ct Q h12).1
      have B := (sndE b _ _ _ X C Wx _ _ ct Q h13).1
      exact ss_par2 ct h1 h2 (by simpa using h3) h4 h5 (s_cons A (s_cons B s_nil (star_cons h9)) (star_cons h8)) (sw2_ok hk h4 h5 (by simpa using h6) h7 h8 h9 h10 h11)
    · cases h
  | .par3 i j l a b c, st, h => by
    simp only [ck1] at h
    split at h
    · simp only [Bool.and_eq_true, beq_iff_eq, lookIs, Bool.not_eq_true', bne_iff_ne] at h
      obtain ⟨⟨⟨⟨⟨⟨⟨⟨⟨⟨⟨⟨⟨⟨⟨⟨⟨⟨⟨⟨⟨h1, h2⟩, h3⟩, h4⟩, h5⟩, h6⟩, h7⟩, h8⟩, h9⟩, h10⟩, h11⟩, h12⟩, h13⟩, h14⟩, h15⟩, h16⟩, h17⟩, h18⟩, h19⟩, h20⟩, h21⟩, h22⟩ := h
      have A := (sndE a _ _ _ X C Wx _ _ ct Q h20).1
      have B := (sndE b _ _ _ X C Wx _ _ ct Q h21).1
      have D := (sndE c _ _ _ X C Wx _ _ ct Q h22).1
      exact ss_par3 ct h1 h2 h3 (by simpa using h4) (by simpa using h5) (by simpa using h6) h7 h8 h9 (s_cons A (s_cons B (s_cons D s_nil (star_cons h17)) (star_cons h16)) (star_cons h15)) (sw3_ok hk h7 h8 h9 (by simpa using h10) (by simpa using h11) h12 h13 h14 h15 h16 h17 h18 h19)
    · cases h
  | .seti o i e, st, h => by
    simp only [ck1] at h
    split at h
    · simp only [Bool.and_eq_true, Bool.not_eq_true'] at h
      obtain ⟨⟨⟨⟨h1, h2⟩, h3⟩, h4⟩, h5⟩ := h
      exact ss_seti (sndE o _ _ _ X C Wx _ _ ct Q h1).1 (sndE i _ _ _ X C Wx _ _ ct Q h2).1 (sndE e _ _ _ X C Wx _ _ ct Q h3).1 h4 (by unfold swapsWithSole; exact swF h5) rfl
    · cases h
  | .expr e, st, h => by
    simp only [ck1] at h
    split at h
    · simp only [Bool.and_eq_true, Bool.not_eq_true'] at h
      exact ss_expr (sndE e _ _ _ X C Wx _ _ ct Q h.1).1 (swF h.2)
    · cases h
  | .rt e, st, h => by
    simp only [ck1] at h
    split at h
    · exact ss_rt (sndE e _ _ _ X C Wx _ _ ct Q h).1
    · cases h
  | .rtn, st, h => by
    simp only [ck1] at h
    split at h
    · exact ss_rtn
    · cases h
  | .ife c a b, st, h => by
    simp only [ck1] at h
    split at h
    · simp only [Bool.and_eq_true] at h
      obtain ⟨⟨⟨h1, h2⟩, h3⟩, h4⟩ := h
      exact ss_ife ((sndE c _ _ _ X C Wx _ _ ct Q h1).2.1 h2) (sndS hk er hp ct Q a _ h3) (sndS hk er hp ct Q b _ h4)
    · cases h
  | .whl c b, st, h => by
    simp only [ck1] at h
    split at h
    · simp only [Bool.and_eq_true] at h
      obtain ⟨⟨h1, h2⟩, h3⟩ := h
      exact ss_whl hp ((sndE c _ _ _ X C Wx _ _ ct Q h1).2.1 h2) (sndS hk er hp ct Q b _ h3)
    · cases h
  | .forr t it b, st, h => by
    simp only [ck1] at h
    split at h
    · simp only [Bool.and_eq_true] at h
      obtain ⟨⟨⟨h1, h2⟩, h3⟩, h4⟩ := h
      exact ss_for hp ct.calm (sndI it _ _ _ _ X C Wx _ _ ct Q h2) (s_tg ct.hK ct.nd ct.calm Q t _ h1) (sndS hk er hp ct Q b _ h3) (fold_no h4)
    · cases h
  | .brk, st, h => by
    simp only [ck1] at h
    split at h
    · exact ss_brk
    · cases h
  | .cnt, st, h => by
    simp only [ck1] at h
    split at h
    · exact ss_cnt
    · cases h
  | .pass, st, h => by
    simp only [ck1] at h
    split at h
    · exact ss_pass
    · cases h
  | .raise n l, st, h => by
    simp only [ck1] at h
    split at h
    · simp only [Bool.and_eq_true, beq_iff_eq] at h
      obtain ⟨⟨⟨h1, h2⟩, h3⟩, h4⟩ := h
      split at h4
      · exact ss_raise ct er h1 (gl_of Q h2) (okName_of h3).1
      · cases h4
    · cases h
  | .nil, st, h => by simp [ck1] at h
  | .seq _ _, st, h => by simp [ck1] at h
theorem sndS (hk : X.env.scope.kind = .function) (er : Er X C xs) (hp : PassesOwn (model X.prog X.w) X.A X.env X.xe) (ct : Ct X C P Nn d Wx) (Q : Sc X X.env.scope true) : ∀ (ir : S) (st : List Stmt), ckS Nn xs X.N X.env.scope ir st = true → PSs X st (tS C P (callD P d) Wx ir)
  | .nil, st, h => by
    simp only [ckS] at h
    split at h
    · exact ss_nil
    · cases h
  | .seq a b, st, h => by
    simp only [ckS] at h
    split at h
    · simp only [Bool.and_eq_true] at h
      exact ss_seq (snd1 hk er hp ct Q a _ h.1) (sndS hk er hp ct Q b _ h.2)
    · cases h
  | .asg .., st, h | .par2 .., st, h | .par3 .., st, h | .seti .., st, h | .expr _, st, h | .rt _, st, h | .rtn, st, h | .ife .., st, h | .whl .., st, h | .forr .., st, h | .brk, st, h | .cnt, st, h | .pass, st, h | .raise .., st, h => by simp [ckS] at h
end
end
end G

set_option Elab.async false
set_option linter.all false
set_option autoImplicit false
set_option maxRecDepth 100000
set_option maxHeartbeats 4000000
/-! GD: defs: each keeps its promise, however deep. -/
namespace G
open PySem PySem.Spec PyProof.Rows L2
/-- a def of the text, its form and its address; cs: code objects and their tables -/
structure DData (K : PySem.W.Frag) (mg : Str → Option Value) (Nn : Nm) (xs : List Str) (P : Pg) (C : Cn) (cs : List (Addr × Addr)) (n : Nat) (x : Str) (f : Addr) (fd : FuncData) (ps : List Str) : Prop where
  ex : ∃ (st : Stmt) (N : List Str) (df : Def) (oc : Value) (od : Option Addr) (kV doc pm : Value) (an : Option Addr) (cdv ct : Value) (osl : Array (Option Value)), fd = PySem.W.fnOf x x (defArgs st) (defBody st) (defScope st) .none kV doc pm an cdv ct ∧ C.fa n = some f ∧ mg x = some (.ref f) ∧ PySem.W.keepIn K (.ref f) = true ∧
    K.lookup f = some ⟨oc, od, .func fd, osl⟩ ∧ PySem.W.codeIn K cdv x = true ∧ Binds K fd ps [] ∧
    FnScope N ps (defScope st) ∧ P.defs[n]? = some df ∧ df.np = ps.length ∧ df.nl = N.length ∧
    (ckS Nn.no xs N (defScope st) df.body (defBody st) = true ∨ (ckS Nn xs N (defScope st) df.body (defBody st) = true ∧
      ∃ c Pt, cdv = .ref c ∧ (c, Pt) ∈ cs ∧ (Pt, (x ++ ".<locals>.") ++ "<lambda>") ∈ C.T ∧ ∀ p ∈ C.T, p.1 = Pt → p.2 = (x ++ ".<locals>.") ++ "<lambda>"))
structure DefOk (K : PySem.W.Frag) (mg : Str → Option Value) (Nn : Nm) (xs : List Str) (P : Pg) (C : Cn) (cs : List (Addr × Addr)) (n : Nat) (x : Str) : Prop where
  ex : ∃ f fd ps, DData K mg Nn xs P C cs n x f fd ps
structure CnOk (mg : Str → Option Value) (P : Pg) (C : Cn) (n : Nat) (x : Str) : Prop where
  ex : ∃ u v w, mg x = some u ∧ RelV v u ∧ P.consts[n]? = some w ∧ ∀ xi ρ H, Rep { C with xi := xi } ρ H w v
structure ErOk (K : PySem.W.Frag) (mg : Str → Option Value) (C : Cn) (n : Nat) (x : Str) : Prop where
  ex : ∃ (a : Addr) (B newId initId : String) (bmB : List Value), C.ca n = some a ∧ mg x = some (.ref a) ∧ ExcBaseFacts B newId initId bmB ∧ PySem.W.excIn K a bmB newId = true ∧ PySem.W.keepIn K (.ref a) = true ∧
    PySem.W.subIn K (.ref a) (.type "BaseException") = some true ∧ PySem.W.typeIn K (.ref a) = some (.type "type")
/-- what the proof needs of a program -/
structure PgOk (K : PySem.W.Frag) (mg : Str → Option Value) (Nn : Nm) (xs : List Str) (P : Pg) (C : Cn) (cs : List (Addr × Addr)) : Prop where
  hK : K = C.K
  blt : ∀ x ∈ bnames, mg x = none
  df : ∀ (n : Nat) (x : Str), Nn.fns[n]? = some x → DefOk K mg Nn xs P C cs n x
  cn : ∀ (n : Nat) (x : Str), Nn.cns[n]? = some x → CnOk mg P C n x
  er : ∀ (n : Nat) (x : Str), xs[n]? = some x → ErOk K mg C n x
  tl : ∀ (n : Nat) (x : Str), Nn.tl[n]? = some x → ∃ row, P.told[n]? = some row ∧ TellK K mg C x row
section
variable {Pr : Program} {w : World} {K : PySem.W.Frag} {mg : Str → Option Value} {base : Heap} {Nn : Nm} {xs : List Str} {P : Pg} {C : Cn}
theorem startEnv {N : List Str} {args : List W} {vs : List V} {ρ : List Addr} {H : Hp} (r : Reps C ρ H args vs) (hl : args.length ≤ N.length) : EnvR C ρ H (args.map some ++ List.replicate (N.length - args.length) none) (L2.start N vs) := by
  have hv := r.length
  unfold L2.start
  refine ⟨by simp [← hv], fun i u h => ?_⟩
  by_cases hi : i < args.length
  · rw [List.getElem?_append_left (by simpa using hi), List.getElem?_map] at h
    rw [List.getElem?_append_left (by rw [List.length_map, ← hv]; exact hi), List.getElem?_map]
    cases e : args[i]? with
    | none => rw [e] at h; cases h
    | some a =>
      rw [e] at h
      cases h
      obtain ⟨v, e1, r1⟩ := r.get e
      exact ⟨v, by rw [e1]; rfl, r1⟩
  · rw [List.getElem?_append_right (by simpa using hi), List.getElem?_replicate] at h
    split at h <;> cases h
theorem dat_ok {cs : List (Addr × Addr)} (ok : PgOk K mg Nn xs P C cs) (TB : ∀ p ∈ cs, LamX.TabB base mg p.1 p.2) : ∀ (d k : Nat), k ≤ d → ∀ (n : Nat) (x : Str), Nn.fns[n]? = some x → ∀ f fd ps, DData K mg Nn xs P C cs n x f fd ps → FnOk Pr w K mg base (L2.CX Pr w) k f fd ps (spD C P k n)
  | 0, k, hk, n, x, hn, f, fd, ps, dd => by
    obtain rfl : k = 0 := by omega
    obtain ⟨st, N, df, oc, od, kV, doc, pm, an, cdv, ctv, osl, rfl, e1, e2, kp, lk, hcd, b, S, e3, h1, h2, ck⟩ := dd.ex
    have no : ∀ vs H Q E, ¬ spD C P 0 n vs H Q E := fun vs H Q E ⟨xi, ρ, s, args, _, _, h⟩ => h.elim
    exact ⟨fun vs H Q E h => (no _ _ _ _ h).elim, fun A outer s H args us vs Q E _ _ _ _ h => (no _ _ _ _ h).elim⟩
  | d + 1, k, hk, n, x, hn, f, fd, ps, dd => by
    have ih0 := dat_ok ok TB d
    have ih : ∀ (k : Nat), k ≤ d → ∀ (n : Nat) (x : Str), Nn.fns[n]? = some x → ∃ f fd ps, C.fa n = some f ∧ mg x = some (.ref f) ∧ PySem.W.keepIn K (.ref f) = true ∧ Binds K fd ps [] ∧ FnOk Pr w K mg base (L2.CX Pr w) k f fd ps (spD C P k n) := fun k hk n x hn => by
      obtain ⟨f, fd, ps, dd⟩ := (ok.df n x hn).ex
      have F := ih0 k hk n x hn f fd ps dd
      obtain ⟨st, N, df, oc, od, kV, doc, pm, an, cdv, ctv, osl, e0, e1, e2, kp, lk, hcd, b, S, e3, h1, h2, ck⟩ := dd.ex
      exact ⟨f, fd, ps, e1, e2, kp, b, F⟩
    by_cases hkd : k ≤ d
    · exact ih0 k hkd n x hn f fd ps dd
    obtain rfl : k = d + 1 := by omega
    obtain ⟨st, N, df, oc, od, kV, doc, pm, an, cdv, ctv, osl, rfl, e1, e2, kp, lk, hcd, b, S, e3, h1, h2, ck⟩ := dd.ex
    have hpl : ps.length ≤ N.length := by have := congrArg List.length S.pre; rw [List.length_take] at this; omega
    -- the body is run
    have dn : ∀ {vs H Q E}, spD C P (d + 1) n vs H Q E → ∃ xi ρ s args, SR { C with xi := xi } ρ H s ∧ Reps { C with xi := xi } ρ H args vs ∧ args.length = ps.length ∧
        ResS { C with xi := xi } ρ H (evS P (callD P d) df.body (args.map some ++ List.replicate (df.nl - df.np) none) s) { nx := fun _ H' => Q .non H', rt := Q } (fun cls d _ H => E cls d H) := fun {vs H Q E} ⟨xi, ρ, s, args, S, r, h⟩ => by
      simp only [callD, e3] at h
      by_cases hl : args.length = df.np
      · rw [if_pos hl] at h
        refine ⟨xi, ρ, s, args, S, r, hl.trans h1, ?_⟩
        cases e : evS P (callD P d) df.body (args.map some ++ List.replicate (df.nl - df.np) none) s with
        | err => rw [e] at h; exact h
        | exc c l env' s' =>
          rw [e] at h
          exact fun ρ' H' σ' a d g S _ ec => h ρ' H' a d g S ec
        | ok fl env' s' =>
          rw [e] at h
          cases fl with
          | nx => exact fun ρ' H' σ' g S _ => h ρ' H' .non g S Rep.mkN
          | bk => exact h.elim
          | ct => exact h.elim
          | rt w => exact fun ρ' H' v g S r => h ρ' H' v g S r
      · rw [if_neg hl] at h
        exact h.elim
    refine fn_of lk hcd S (fun vs H Q E h => ?_) fun A outer s H vs Q E hr h => ?_
    · obtain ⟨xi, ρ, s, args, _, r, hl, _⟩ := dn h
      rw [← r.length, hl]
    · obtain ⟨xi, ρ, s0, args, S0, r, hl, q⟩ := dn h
      have e5 : args.map some ++ List.replicate (df.nl - df.np) none = args.map some ++ List.replicate (N.length - args.length) none := by rw [h2, h1, hl]
      rw [e5] at q
      have sc : Sc (cxOf (L2.CX Pr w) Pr w K mg base N x (defScope st) f cdv A outer s H E) (defScope st) true := by
        refine ⟨fun x h => h, fun x h => ⟨?_, .inl rfl⟩, fun x h => h, fun x h => h, fun x h => h⟩
        rcases h with h | ⟨_, h⟩
        · exact .inl h
        · exact .inr h
      have er : Er (cxOf (L2.CX Pr w) Pr w K mg base N x (defScope st) f cdv A outer s H E) { C with xi := xi } xs := ⟨fun m y hm => (ok.er m y hm).ex⟩
      have cn : ∀ (m : Nat) (y : Str), Nn.cns[m]? = some y → ∃ u v w, mg y = some u ∧ RelV v u ∧ P.consts[m]? = some w ∧ ∀ xi ρ H, Rep { C with xi := xi } ρ H w v := fun m y hm => by
        obtain ⟨u, v, w, q1, q2, q3, q4⟩ := (ok.cn m y hm).ex
        exact ⟨u, v, w, q1, q2, q3, fun xi ρ H => q4 xi ρ H⟩
      rcases ck with ck | ⟨ck, c, Pt, q1, q2, q3, q4⟩
      · have ct : Ct (cxOf (L2.CX Pr w) Pr w K mg base N x (defScope st) f cdv A outer s H E) { C with xi := xi } P Nn.no d (fun cls d _ H => E cls d H) :=
          ⟨ok.hK, S.nd, rfl, hr, takes_of rfl rfl rfl rfl, ok.blt, fun k hk m y hm => ih k hk m y hm, cn, fun m y hm => by simp [Nm.no] at hm⟩
        exact ⟨tS { C with xi := xi } P (callD P d) (fun cls d _ H => E cls d H) df.body, sndS S.kind er (passes_of rfl) ct sc df.body _ ck, ρ, s0, _, startEnv r (by omega), S0, q⟩
      · have ct : Ct (cxOf (L2.CX Pr w) Pr w K mg base N x (defScope st) f cdv A outer s H E) { C with xi := xi } P Nn d (fun cls d _ H => E cls d H) :=
          ⟨ok.hK, S.nd, rfl, hr, takes_of rfl rfl rfl rfl, ok.blt, fun k hk m y hm => ih k hk m y hm, cn, fun m y hm => by
            obtain ⟨row, er, tk⟩ := ok.tl m y hm
            exact ⟨⟨row, er, ⟨tk.ex⟩⟩, c, Pt, q1, TB _ q2, q3, q4⟩⟩
        exact ⟨tS { C with xi := xi } P (callD P d) (fun cls d _ H => E cls d H) df.body, sndS S.kind er (passes_of rfl) ct sc df.body _ ck, ρ, s0, _, startEnv r (by omega), S0, q⟩
end
end G

set_option Elab.async false
set_option linter.all false
set_option autoImplicit false
set_option maxRecDepth 100000
set_option maxHeartbeats 4000000
/-! GE: from the top's facts to a law's end. -/
namespace G
open PySem PySem.Spec PyProof.Rows L2
/-- a def: its name, its statement, its slots, its parameters, its form, whether it hands lambdas on -/
structure DD where
  x : Str
  st : Stmt
  N : List Str
  ps : List Str
  df : Def
  lam : Bool
/-- a teller: what it tells of each raised class -/
structure TD where
  x : Str
  st : Stmt
  row : List (Option (List Nat))
/-- a program: defs, tellers, constants, raised classes, classes of clauses, what is a kind of what -/
structure Pk where
  ds : List DD
  tls : List TD
  cs : List (Str × W)
  xs : List Str
  hs : List Str
  exms : List (Str × Str × Bool)
  fuel : Nat
  lam : Option Str
def Pk.nn (k : Pk) : Nm := ⟨k.ds.map (·.x), k.cs.map (·.1), k.tls.map (·.x)⟩
def Pk.pg (k : Pk) : Pg := ⟨k.ds.map (·.df), k.cs.map (·.2), k.fuel, k.tls.map (·.row)⟩
def fnD (x : Str) (st : Stmt) : He.FnD := ⟨(x, none), x, x, defArgs st, defBody st, defScope st⟩
def Pk.fn (k : Pk) : List He.FnD := k.ds.map (fun d => fnD d.x d.st) ++ k.tls.map fun d => fnD d.x d.st
def cnF : Str × W → He.Fa
  | (x, .int i) => .int x i
  | (x, .str l) => .str x (strOf l)
  | (x, _) => .free x
def cnB : W → Bool
  | .int _ => true
  | .str l => l.all (· < 0x110000)
  | _ => false
def Pk.fa (k : Pk) : List He.Fa := k.ds.map (fun d => .glo d.x) ++ (k.ds.map (fun d => .keep d.x) ++ (k.tls.map (fun d => .glo d.x) ++ (k.tls.map (fun d => .keep d.x) ++ (bnames.map .free ++ (k.cs.map cnF ++ (k.xs.map .glo ++ (k.xs.map .exc ++ (k.hs.map .glo ++ k.exms.map fun q => .exm q.1 q.2.1 q.2.2))))))))
section
variable {K : PySem.W.Frag} {fa : List He.Fa} {fn : List He.FnD}
theorem says_fact (c : He.SaysE fa fn K) {f : He.Fa} (h : f ∈ fa) : f.ok K = true := by
  have c1 := (He.ba (show ((fa.all fun f => f.ok K) && fn.all fun d => (He.Fa.code d.at_ d.qual).ok K) = true from congrArg (fun z : He.Al => z.1) c)).1
  exact List.all_eq_true.mp c1 f h
theorem says_fn (c : He.SaysE fa fn K) {d : He.FnD} (h : d ∈ fn) : ∃ oc od osl kV doc pm an cdv ct, K.lookup (He.fAd K d.at_) = some ⟨oc, od, .func (PySem.W.fnOf d.name d.qual d.params d.body d.scope .none kV doc pm an cdv ct), osl⟩ ∧ PySem.W.codeIn K cdv d.qual = true := by
  have c2 := (He.ba (show ((fa.all fun f => f.ok K) && fn.all fun d => (He.Fa.code d.at_ d.qual).ok K) = true from congrArg (fun z : He.Al => z.1) c)).2
  have e : fn.map (fun d => He.fnObs K d.at_) = fn.map He.FnD.val := congrArg (fun z : He.Al => z.2) c
  obtain ⟨i, hi⟩ := List.mem_iff_getElem?.mp h
  have e2 : (fn.map fun d => He.fnObs K d.at_)[i]? = (fn.map He.FnD.val)[i]? := by rw [e]
  rw [List.getElem?_map, List.getElem?_map, hi] at e2
  exact He.fn_ok (Option.some.inj e2) (List.all_eq_true.mp c2 d h)
end
/-! ### the table of a def that hands lambdas on -/
/-- the part of the heap that is known, without tables -/
def noTab (g : Addr → Option Obj) (a : Addr) : Bool := match g a with
  | some ⟨_, _, .fields vs, _⟩ => decide (vs.size ≠ 0)
  | _ => true
def frK (n : Nat) (g : Addr → Option Obj) : PySem.W.Frag := He.frG g ((He.asG g n).filter (noTab g))
def tabOk (K : PySem.W.Frag) (g : Addr → Option Obj) (x : Str) : Option (Addr × Addr) :=
  match K.lookup (He.ga K x) with
  | some ⟨_, _, .func fd, _⟩ => (match fd.code with
    | .ref c => (match g c with
      | some ⟨.type t, _, .fields vs, _⟩ => (match (vs[11]? : Option Value) with
        | some (.ref P) => (match vs.getD 18 .none, vs.getD 7 .none, vs.getD 9 .none, vs.getD 10 .none with
          | .str _ _, .int _ _, .bool _, .int _ _ => (match g P with
            | some ⟨.none, none, .fields us, sl⟩ => if t = "code" ∧ c ≠ P ∧ us.size = 0 ∧ sl.size = 0 ∧ (K.lookup P).isNone = true then some (c, P) else none
            | _ => none)
          | _, _, _, _ => none)
        | _ => none)
      | _ => none)
    | _ => none)
  | _ => none
structure TabAt (K : PySem.W.Frag) (h : Heap) (x : Str) (c P : Addr) : Prop where
  code : ∃ oc od fd osl, K.lookup (He.ga K x) = some ⟨oc, od, .func fd, osl⟩ ∧ fd.code = .ref c
  hd : PySem.W.CodeHd h c P
  emp : h.get? P = some { cls := .none, data := .fields #[] }
  no : K.lookup P = none
theorem tabOk_at {K : PySem.W.Frag} {h : Heap} {x : Str} {c P : Addr} (e : tabOk K h.get? x = some (c, P)) : TabAt K h x c P := by
  unfold tabOk at e
  split at e <;> try (cases e; done)
  rename_i oc od fd osl e1
  split at e <;> try (cases e; done)
  rename_i c' e2
  split at e <;> try (cases e; done)
  rename_i t od2 vs sl2 e3
  split at e <;> try (cases e; done)
  rename_i P' e4
  split at e <;> try (cases e; done)
  rename_i file tf flags tg inF text tt e5 e6 e7 e8
  split at e <;> try (cases e; done)
  rename_i us sl e9
  split at e <;> try (cases e; done)
  rename_i hc
  obtain ⟨h1, h2, h3, h4, h5⟩ := hc
  simp only [Option.some.injEq, Prod.mk.injEq] at e
  obtain ⟨rfl, rfl⟩ := e
  subst h1
  refine ⟨⟨oc, od, fd, osl, e1, e2⟩, ⟨_, vs, file, tf, flags, tg, inF, text, tt, e3, rfl, rfl, e4, ?_, e5, e6, e7, e8, h2⟩, ?_, by simpa using h5⟩
  · rw [Array.getD_eq_getD_getElem?, e4]; rfl
  · rw [e9]
    rw [Array.size_eq_zero_iff.mp h3, Array.size_eq_zero_iff.mp h4]
/-- the Hook -/
def hookG (n : Nat) (fa : List He.Fa) (fn : List He.FnD) (lam : Option Str) : PySem.W.Hook where
  α := He.Al × Bool
  obs := fun s => (He.obsE fa fn (frK n s.heap.get?), match lam with | some x => (tabOk (frK n s.heap.get?) s.heap.get? x).isSome | none => true)
  val := fun _ => (He.valE fn, true)
  says := fun _ h => ∃ K : PySem.W.Frag, K.In h ∧ He.SaysE fa fn K ∧ ∀ x, lam = some x → ∃ c P, TabAt K h x c P
  of := fun _ s e => by
    refine ⟨frK n s.heap.get?, He.frG_in, (Prod.mk.inj e).1, fun x hx => ?_⟩
    have e2 := (Prod.mk.inj e).2
    subst hx
    simp only at e2
    cases q : tabOk (frK n s.heap.get?) s.heap.get? x with
    | none => rw [q] at e2; cases e2
    | some p => exact ⟨p.1, p.2, tabOk_at q⟩
  keeps := fun _ h h' ⟨K, hK, c, t⟩ k => by
    refine ⟨K, PySem.W.Frag.In.keeps hK k, c, fun x hx => ?_⟩
    obtain ⟨cc, P, t⟩ := t x hx
    refine ⟨cc, P, t.code, ?_, k _ _ t.emp, t.no⟩
    obtain ⟨o, vs, file, tf, flags, tg, inF, text, tt, e1, r⟩ := t.hd
    exact ⟨o, vs, file, tf, flags, tg, inF, text, tt, k _ _ e1, r⟩
def obG (n : Nat) (fa : List He.Fa) (fn : List He.FnD) (lam : Option Str) (s : PySem.W.SharedT) : He.Al × Bool :=
  (He.obsE fa fn (frK n (HandSHeadRun.getT s)), match lam with | some x => (tabOk (frK n (HandSHeadRun.getT s)) (HandSHeadRun.getT s) x).isSome | none => true)
theorem obG_eq {n : Nat} {fa : List He.Fa} {fn : List He.FnD} {lam : Option Str} (s : PySem.W.SharedT) : obG n fa fn lam s = (hookG n fa fn lam).obs s.abs := by
  have e : HandSHeadRun.getT s = s.abs.heap.get? := funext (HandSHeadRun.getT_eq s)
  unfold obG hookG
  rw [e]
/-! ### the program -/
/-- what is looked at once for each def -/
structure DChk (k : Pk) (d : DD) : Prop where
  sc : FnScope d.N d.ps (defScope d.st)
  np : d.df.np = d.ps.length
  nl : d.df.nl = d.N.length
  bd : ∀ (kV doc pm : Value) (an : Option Addr) (cdv ct : Value) (us : List Value), us.length = d.ps.length → bindArgs (PySem.W.fnOf d.x d.x (defArgs d.st) (defBody d.st) (defScope d.st) .none kV doc pm an cdv ct) ⟨us, []⟩ = pure (d.ps.zip us)
  ck : ckS (if d.lam = true then k.nn else k.nn.no) k.xs d.N (defScope d.st) d.df.body (defBody d.st) = true
def AllP {α : Type} (p : α → Prop) : List α → Prop
  | [] => True
  | a :: r => p a ∧ AllP p r
theorem AllP.get {α : Type} {p : α → Prop} : ∀ {l : List α}, AllP p l → ∀ a ∈ l, p a
  | [], _, _, h => nomatch h
  | b :: r, h, a, hm => by
    rcases List.mem_cons.mp hm with e | e
    · rw [e]; exact h.1
    · exact AllP.get h.2 a e
def Pk.cn (k : Pk) (K : PySem.W.Frag) (T : List (Addr × Str)) : Cn := ⟨K, fun n => (k.ds[n]?).map fun d => He.ga K d.x, fun n => (k.xs[n]?).map (He.ga K), fun _ => False, T⟩
def lamQ (x : Str) : Str := (x ++ ".<locals>.") ++ "<lambda>"
/-- a program's own part -/
structure PkOk (k : Pk) : Prop where
  ds : AllP (DChk k) k.ds
  cs : (k.cs.all fun q => cnB q.2) = true
  lm : ∀ d ∈ k.ds, d.lam = true → k.lam = some d.x
theorem pk_dat {k : Pk} (ok : PkOk k) {K : PySem.W.Frag} {h : Heap} {mg : Str → Option Value} (X : K.In h) (G : h.Ns mainGlobals mg) (c : He.SaysE k.fa k.fn K) (cs : List (Addr × Addr)) (T : List (Addr × Str))
    (hl : ∀ x, k.lam = some x → ∃ cc P, cs = [(cc, P)] ∧ T = [(P, lamQ x)] ∧ TabAt K h x cc P) (n : Nat) (d : DD) (hd : k.ds[n]? = some d) :
    ∃ fd, DData K mg k.nn k.xs k.pg (k.cn K T) cs n d.x (He.ga K d.x) fd d.ps ∧ (∀ us : List Value, us.length = d.ps.length → bindArgs fd ⟨us, []⟩ = pure (d.ps.zip us)) ∧ mg d.x = some (.ref (He.ga K d.x)) := by
  have hm := List.mem_of_getElem? hd
  obtain ⟨sc, np, nl, bd, ck⟩ := ok.ds.get d hm
  obtain ⟨oc, od, osl, kV, doc, pm, an, cdv, ct, lk, hcd⟩ := says_fn c (d := fnD d.x d.st) (by simp only [Pk.fn, List.mem_append]; exact .inl (List.mem_map_of_mem (f := fun d => fnD d.x d.st) hm))
  have hg := He.glo_ok X G (says_fact c (f := .glo d.x) (by simp only [Pk.fa, List.mem_append]; exact .inl (List.mem_map_of_mem (f := fun d => He.Fa.glo d.x) hm)))
  refine ⟨_, ⟨d.st, d.N, d.df, oc, od, kV, doc, pm, an, cdv, ct, osl, rfl, by simp [Pk.cn, hd], hg,
    He.keep_ok (says_fact c (by simp only [Pk.fa, List.mem_append]; exact .inr (.inl (List.mem_map_of_mem (f := fun d => He.Fa.keep d.x) hm)))), lk, hcd, .all (bd kV doc pm an cdv ct), sc, by simp [Pk.pg, hd], np, nl, ?_⟩, bd kV doc pm an cdv ct, hg⟩
  cases e : d.lam with
  | false => rw [e] at ck; exact .inl ck
  | true =>
    rw [e] at ck
    obtain ⟨cc, P, e1, e2, t⟩ := hl d.x (ok.lm d hm e)
    obtain ⟨oc', od', fd', osl', lk', hc'⟩ := t.code
    have lk2 : K.lookup (He.ga K d.x) = some ⟨oc, od, .func (PySem.W.fnOf d.x d.x (defArgs d.st) (defBody d.st) (defScope d.st) .none kV doc pm an cdv ct), osl⟩ := lk
    rw [lk2] at lk'
    cases lk'
    refine .inr ⟨ck, cc, P, hc', by rw [e1]; simp, ?_, fun p hp _ => ?_⟩
    · show (P, _) ∈ T
      rw [e2]; exact List.mem_singleton.mpr rfl
    · have hp : p ∈ T := hp
      rw [e2] at hp
      rw [List.mem_singleton.mp hp]; rfl
theorem pk_ok {k : Pk} (ok : PkOk k) {K : PySem.W.Frag} {h : Heap} {mg : Str → Option Value} (X : K.In h) (G : h.Ns mainGlobals mg) (c : He.SaysE k.fa k.fn K) (cs : List (Addr × Addr)) (T : List (Addr × Str))
    (hl : ∀ x, k.lam = some x → ∃ cc P, cs = [(cc, P)] ∧ T = [(P, lamQ x)] ∧ TabAt K h x cc P)
    (tl : ∀ t ∈ k.tls, TellK K mg (k.cn K T) t.x t.row) : PgOk K mg k.nn k.xs k.pg (k.cn K T) cs where
  hK := rfl
  blt := fun x hx => He.free_ok X G (says_fact c (by simp only [Pk.fa, List.mem_append]; exact .inr (.inr (.inr (.inr (.inl (List.mem_map_of_mem hx)))))))
  df := fun n x hn => by
    simp only [Pk.nn, List.getElem?_map, Option.map_eq_some_iff] at hn
    obtain ⟨d, hd, rfl⟩ := hn
    obtain ⟨fd, D, _⟩ := pk_dat ok X G c cs T hl n d hd
    exact ⟨_, fd, d.ps, D⟩
  cn := fun n x hn => by
    simp only [Pk.nn, List.getElem?_map, Option.map_eq_some_iff] at hn
    obtain ⟨⟨y, w⟩, hd, rfl⟩ := hn
    have hm := List.mem_of_getElem? hd
    have f := says_fact c (f := cnF (y, w)) (by simp only [Pk.fa, List.mem_append]; exact .inr (.inr (.inr (.inr (.inr (.inl (List.mem_map_of_mem hm)))))))
    have b := List.all_eq_true.mp ok.cs _ hm
    have e : k.pg.consts[n]? = some w := by simp [Pk.pg, hd]
    cases w <;> try (simp [cnB] at b; done)
    · rename_i i
      obtain ⟨t, q⟩ := He.int_ok X G f
      exact ⟨_, .int i, _, q, ⟨t, rfl⟩, e, fun xi ρ H => Rep.mkI⟩
    · rename_i l
      obtain ⟨t, q⟩ := He.str_ok X G f
      exact ⟨_, .str (strOf l), _, q, ⟨t, rfl⟩, e, fun xi ρ H => Rep.mkS fun z hz => by simpa using List.all_eq_true.mp b z hz⟩
  er := fun n x hn => by
    have hm := List.mem_of_getElem? hn
    obtain ⟨h1, h2, h3, h4⟩ := He.exc_ok (says_fact c (f := .exc x) (by simp only [Pk.fa, List.mem_append]; exact .inr (.inr (.inr (.inr (.inr (.inr (.inr (.inl (List.mem_map_of_mem hm))))))))))
    exact ⟨He.ga K x, "ValueError", "ValueError.__new__", "ValueError.__init__", He.veBase, by simp [Pk.cn, hn], He.glo_ok X G (says_fact c (by simp only [Pk.fa, List.mem_append]; exact .inr (.inr (.inr (.inr (.inr (.inr (.inl (List.mem_map_of_mem hm))))))))), PySem.F.excBase_ValueError, h1, h2, h3, h4⟩
  tl := fun n x hn => by
    simp only [Pk.nn, List.getElem?_map, Option.map_eq_some_iff] at hn
    obtain ⟨t, ht, rfl⟩ := hn
    exact ⟨t.row, by simp [Pk.pg, ht], tl t (List.mem_of_getElem? ht)⟩
end G

set_option Elab.async false
set_option linter.all false
set_option autoImplicit false
set_option maxRecDepth 100000
set_option maxHeartbeats 4000000
/-! GF: the end: a law whose form answers True keeps its promise. -/
namespace G
open PySem PySem.Spec PyProof.Rows L2
/-- the form of the law answers True for every script -/
def LawTrue (k : Pk) (d i n : Nat) : Prop := ∀ ns : List Int, ns.length ≤ n → (∀ z ∈ ns, Builtin.Int.intBits z ≤ 1048576) → ∃ s', callD k.pg d i [.scr ns] [] = .ok (.bl true) s'
theorem law_sp {k : Pk} {K : PySem.W.Frag} {T : List (Addr × Str)} {cs : List (Addr × Addr)} {d i n : Nat} (hT : ∀ q ∈ T, ∃ p ∈ cs, q.1 = p.2) (L : LawTrue k d i n) (H : Hp) (a : Addr) (ns : List Int) (hl : ns.length ≤ n) (hb : ∀ z ∈ ns, Builtin.Int.intBits z ≤ 1048576)
    (hH : ∀ p ∈ cs, H p.2 = some (.tbl #[])) (hS : SqL K H a (ns.map V.int)) : spD (k.cn K T) k.pg d i [.ref a] H (fun v _ => v = .bl true) fun _ _ _ => False := by
  obtain ⟨s', e⟩ := L ns hl hb
  refine ⟨fun _ => False, [], [], [.scr ns], ⟨fun _ h => h.elim, fun q hq => ?_, rfl, List.nodup_nil, fun n xs h => by simp at h⟩, ?_, ?_⟩
  · obtain ⟨p, hp, e⟩ := hT q hq
    exact LamX.TabS.nil (by rw [e]; exact hH p hp)
  · refine Reps.one ?_
    simp only [Rep]
    refine ⟨a, rfl, ?_⟩
    rcases hS with h | h
    · exact .inl ⟨⟨by simp, fun h => h⟩, h⟩
    · exact .inr h
  · rw [e]
    exact fun ρ' H' v _ _ r => r.bl
/-- the end of a law -/
theorem law_at {l : PySem.W.OpenLaw} {w : World} {k : Pk} (ok : PkOk k) {K : PySem.W.Frag} {h : Heap} {mg : Str → Option Value} {f : Addr} {i d n : Nat} {x : Str} (X : K.In h) (G : h.Ns mainGlobals mg) (hf : mg "law" = some (.ref f)) (c : He.SaysE k.fa k.fn K)
    (tb : ∀ x, k.lam = some x → ∃ cc P, TabAt K h x cc P) (hi : k.nn.fns[i]? = some "law") (hps : ∀ dd, k.ds[i]? = some dd → dd.ps = [x])
    (tl : ∀ T, ∀ t ∈ k.tls, TellK K mg (k.cn K T) t.x t.row) (L : LawTrue k d i n) : LamX.LawAtS l w K (L2.CX l.prog w) d n x mg f h := by
  -- the table
  obtain ⟨cs, T, hl, h2, h3, h4, h1⟩ : ∃ (cs : List (Addr × Addr)) (T : List (Addr × Str)), (∀ x, k.lam = some x → ∃ cc P, cs = [(cc, P)] ∧ T = [(P, lamQ x)] ∧ TabAt K h x cc P) ∧ (∀ p ∈ cs, h.get? p.2 = some { cls := .none, data := .fields #[] }) ∧ (∀ p ∈ cs, K.lookup p.2 = none) ∧
      (∀ p ∈ cs, PySem.W.CodeHd h p.1 p.2) ∧ ∀ q ∈ T, ∃ p ∈ cs, q.1 = p.2 := by
    cases e : k.lam with
    | none =>
      refine ⟨[], [], ?_, ?_, ?_, ?_, ?_⟩
      · intro x hx; cases hx
      all_goals (intro p hp; cases hp)
    | some y =>
      obtain ⟨cc, P, t⟩ := tb y e
      refine ⟨[(cc, P)], [(P, lamQ y)], fun x hx => ?_, fun p hp => ?_, fun p hp => ?_, fun p hp => ?_, fun q hq => ⟨(cc, P), by simp, ?_⟩⟩
      · have hx := Option.some.inj hx
        subst hx
        exact ⟨cc, P, rfl, rfl, t⟩
      · rw [List.mem_singleton.mp hp]; exact t.emp
      · rw [List.mem_singleton.mp hp]; exact t.no
      · rw [List.mem_singleton.mp hp]; exact t.hd
      · rw [List.mem_singleton.mp hq]
  have pk := pk_ok ok X G c cs T hl (tl T)
  obtain ⟨dd, hd, ex⟩ : ∃ dd, k.ds[i]? = some dd ∧ dd.x = "law" := by
    have hi' : (k.ds.map (·.x))[i]? = some "law" := hi
    rw [List.getElem?_map] at hi'
    cases q : k.ds[i]? with
    | none => rw [q] at hi'; cases hi'
    | some dd => rw [q] at hi'; exact ⟨dd, rfl, Option.some.inj hi'⟩
  obtain ⟨fd, D, bd, hg⟩ := pk_dat ok X G c cs T hl i dd hd
  have hn : k.nn.fns[i]? = some dd.x := by simp [Pk.nn, hd]
  rw [ex, hf] at hg
  have ef : f = He.ga K dd.x := by rw [ex]; injection hg with hg; injection hg
  have hx := hps dd hd
  refine ⟨fd, cs, spD (k.cn K T) k.pg d i, h2, h3, h4, fun s u => .of_eq ?_, fun H a ns hl hb hH hS => law_sp h1 L H a ns hl hb hH hS, fun base _ _ TB => ?_⟩
  · have := bd [u] (by rw [hx]; rfl)
    rw [hx] at this
    exact this
  · have := dat_ok (Pr := l.prog) (w := w) (base := base) pk TB d d (Nat.le_refl d) i dd.x hn _ fd dd.ps D
    rw [hx] at this
    rw [ef]
    exact this
theorem cx_false {P : Program} {w : World} {H : Hp} {s : Shared} {e : Value} {s' : Shared} (h : L2.CX P w [] H s (fun _ _ _ => False) e s') : False := by
  obtain ⟨_, _, _, _, _, _, _, _, _, _, _, _, z⟩ := h
  exact z
/-! facts of clauses and tellers -/
section
variable {k : Pk} {K : PySem.W.Frag} {h : Heap} {mg : Str → Option Value}
theorem glo_h (X : K.In h) (G : h.Ns mainGlobals mg) (c : He.SaysE k.fa k.fn K) {x : Str} (hx : x ∈ k.hs) : mg x = some (.ref (He.ga K x)) :=
  He.glo_ok X G (says_fact c (f := .glo x) (by simp only [Pk.fa, List.mem_append]; exact .inr (.inr (.inr (.inr (.inr (.inr (.inr (.inr (.inl (List.mem_map_of_mem hx)))))))))))
theorem exm_h (c : He.SaysE k.fa k.fn K) {x y : Str} {b : Bool} (hx : (x, y, b) ∈ k.exms) : PySem.W.exmOne K (.ref (He.ga K x)) (.ref (He.ga K y)) = some b :=
  He.exm_ok (says_fact c (f := .exm x y b) (by simp only [Pk.fa, List.mem_append]; exact .inr (.inr (.inr (.inr (.inr (.inr (.inr (.inr (.inr (List.mem_map_of_mem (f := fun q : Str × Str × Bool => He.Fa.exm q.1 q.2.1 q.2.2) hx)))))))))))
theorem tl_fn (c : He.SaysE k.fa k.fn K) {t : TD} (ht : t ∈ k.tls) : ∃ oc od osl kV doc pm an cdv ct, K.lookup (He.ga K t.x) = some ⟨oc, od, .func (PySem.W.fnOf t.x t.x (defArgs t.st) (defBody t.st) (defScope t.st) .none kV doc pm an cdv ct), osl⟩ ∧ PySem.W.codeIn K cdv t.x = true :=
  says_fn c (d := fnD t.x t.st) (by simp only [Pk.fn, List.mem_append]; exact .inr (List.mem_map_of_mem (f := fun d : TD => fnD d.x d.st) ht))
theorem tl_glo (X : K.In h) (G : h.Ns mainGlobals mg) (c : He.SaysE k.fa k.fn K) {t : TD} (ht : t ∈ k.tls) : mg t.x = some (.ref (He.ga K t.x)) :=
  He.glo_ok X G (says_fact c (f := .glo t.x) (by simp only [Pk.fa, List.mem_append]; exact .inr (.inr (.inl (List.mem_map_of_mem (f := fun d : TD => He.Fa.glo d.x) ht)))))
theorem tl_keep (c : He.SaysE k.fa k.fn K) {t : TD} (ht : t ∈ k.tls) : PySem.W.keepIn K (.ref (He.ga K t.x)) = true :=
  He.keep_ok (says_fact c (f := .keep t.x) (by simp only [Pk.fa, List.mem_append]; exact .inr (.inr (.inr (.inl (List.mem_map_of_mem (f := fun d : TD => He.Fa.keep d.x) ht))))))
end
end G

set_option Elab.async false
set_option linter.all false
set_option autoImplicit false
set_option maxRecDepth 100000
set_option maxHeartbeats 4000000
namespace K00
open PySem G L2
def top (i : Nat) : Stmt := PySem.Challenge.pw_restartlisp_k00_whole_words_and_data.main.body.getD i (.Pass ⟨0, 0, 0, 0⟩)
def N_is_whole : List Str := ["value", "low", "high"]
def b_is_whole : G.S := (.seq (.rt (.and (.bi .isi (.cons (.var 0) (.cons (.k (.ty "int")) .nil))) (.and (.not (.bi .isi (.cons (.var 0) (.cons (.k (.ty "bool")) .nil)))) (.chain .le .le (.var 1) (.var 0) (.var 2))))) .nil)
def d_is_whole : DD := ⟨"is_whole", top 17, N_is_whole, ["value", "low", "high"], ⟨3, 3, b_is_whole⟩, false⟩
def N_is_made_of : List Str := ["text", "signs", "sign"]
def b_is_made_of : G.S := (.seq (.rt (.and (.cmp .ne (.var 0) (.k (.str []))) (.bi .all (.cons (.lc (.v 2) (.itr (.var 0)) .nil (.cmp .isin (.var 2) (.var 1)) [2]) .nil)))) .nil)
def d_is_made_of : DD := ⟨"is_made_of", top 18, N_is_made_of, ["text", "signs"], ⟨2, 3, b_is_made_of⟩, false⟩
def N_is_figures : List Str := ["text"]
def b_is_figures : G.S := (.seq (.rt (.call 1 (.cons (.ife (.cmp .isin (.sl (.var 0) .no (.itr (.k (.int 1)))) (.tup (.cons (.k (.str [43])) (.cons (.k (.str [45])) .nil)))) (.sl (.var 0) (.itr (.k (.int 1))) .no) (.var 0)) (.cons (.glob 5) .nil)))) .nil)
def d_is_figures : DD := ⟨"is_figures", top 19, N_is_figures, ["text"], ⟨1, 1, b_is_figures⟩, false⟩
def N_fits_word : List Str := ["value"]
def b_fits_word : G.S := (.seq (.ife (.or (.not (.bi .isi (.cons (.var 0) (.cons (.k (.ty "str")) .nil)))) (.not (.call 1 (.cons (.var 0) (.cons (.glob 7) .nil))))) (.seq (.rt (.k (.bl false))) .nil) .nil) (.seq (.rt (.and (.cmp .le (.bi .len (.cons (.var 0) .nil)) (.glob 3)) (.and (.cmp .ne (.var 0) (.k (.str [110, 105, 108]))) (.not (.call 2 (.cons (.var 0) .nil)))))) .nil))
def d_fits_word : DD := ⟨"fits_word", top 20, N_fits_word, ["value"], ⟨1, 1, b_fits_word⟩, false⟩
def N_fits_name : List Str := ["value"]
def b_fits_name : G.S := (.seq (.rt (.and (.call 3 (.cons (.var 0) .nil)) (.and (.cmp .ne (.var 0) (.k (.str [116]))) (.cmp .ne (.ix (.var 0) (.k (.int 0))) (.k (.str [58])))))) .nil)
def d_fits_name : DD := ⟨"fits_name", top 21, N_fits_name, ["value"], ⟨1, 1, b_fits_name⟩, false⟩
def N_fits_special : List Str := ["value", "sign"]
def b_fits_special : G.S := (.seq (.rt (.and (.call 4 (.cons (.var 0) .nil)) (.and (.cmp .eq (.ix (.var 0) (.k (.int 0))) (.k (.str [42]))) (.and (.cmp .eq (.ix (.var 0) (.neg (.k (.int 1)))) (.k (.str [42]))) (.bi .any (.cons (.lc (.v 1) (.itr (.var 0)) .nil (.cmp .isin (.var 1) (.glob 6)) [1]) .nil)))))) .nil)
def d_fits_special : DD := ⟨"fits_special", top 22, N_fits_special, ["value"], ⟨1, 2, b_fits_special⟩, false⟩
def N_fits_text : List Str := ["value", "sign"]
def b_fits_text : G.S := (.seq (.ife (.or (.not (.bi .isi (.cons (.var 0) (.cons (.k (.ty "str")) .nil)))) (.or (.cmp .ne (.sl (.var 0) .no (.itr (.k (.int 1)))) (.k (.str [34]))) (.cmp .gt (.bi .len (.cons (.var 0) .nil)) (.bin .add (.glob 4) (.k (.int 1)))))) (.seq (.rt (.k (.bl false))) .nil) .nil) (.seq (.rt (.bi .all (.cons (.lc (.v 1) (.itr (.sl (.var 0) (.itr (.k (.int 1))) .no)) .nil (.or (.cmp .eq (.var 1) (.k (.str [10]))) (.chain .le .le (.k (.str [32])) (.var 1) (.k (.str [126])))) [1]) .nil))) .nil))
def d_fits_text : DD := ⟨"fits_text", top 23, N_fits_text, ["value"], ⟨1, 2, b_fits_text⟩, false⟩
def N_is_atom : List Str := ["value"]
def b_is_atom : G.S := (.seq (.rt (.or (.call 0 (.cons (.var 0) (.cons (.neg (.glob 2)) (.cons (.glob 2) .nil)))) (.or (.call 3 (.cons (.var 0) .nil)) (.call 6 (.cons (.var 0) .nil))))) .nil)
def d_is_atom : DD := ⟨"is_atom", top 24, N_is_atom, ["value"], ⟨1, 1, b_is_atom⟩, false⟩
def N_measured : List Str := ["value", "line", "size", "deepest", "here", "depth", "item"]
def b_measured : G.S := (.seq (.par3 1 2 3 (.lst (.cons (.tup (.cons (.var 0) (.cons (.k (.int 1)) .nil))) .nil)) (.k (.int 0)) (.k (.int 0))) (.seq (.whl (.cmp .ne (.var 1) (.lst .nil)) (.seq (.asg (.cons (.cons (.v 4) (.cons (.v 5) .nil)) (.cons (.v 1) .nil)) (.tup (.cons (.ix (.var 1) (.neg (.k (.int 1)))) (.cons (.sl (.var 1) .no (.itr (.neg (.k (.int 1))))) .nil)))) (.seq (.par2 2 3 (.bin .add (.var 2) (.k (.int 1))) (.bi .max (.cons (.var 3) (.cons (.var 5) .nil)))) (.seq (.ife (.or (.cmp .gt (.var 2) (.glob 0)) (.or (.cmp .gt (.var 5) (.glob 1)) (.and (.not (.bi .isi (.cons (.var 4) (.cons (.k (.ty "tuple")) .nil)))) (.not (.call 7 (.cons (.var 4) .nil)))))) (.seq (.rt (.k .non)) .nil) .nil) (.seq (.ife (.bi .isi (.cons (.var 4) (.cons (.k (.ty "tuple")) .nil))) (.seq (.ife (.cmp .gt (.bi .len (.cons (.var 4) .nil)) (.glob 0)) (.seq (.rt (.k .non)) .nil) .nil) (.seq (.asg (.v 1) (.bin .add (.var 1) (.lc (.v 6) (.itr (.var 4)) .nil (.tup (.cons (.var 6) (.cons (.bin .add (.var 5) (.k (.int 1))) .nil))) [6]))) .nil)) .nil) .nil))))) (.seq (.rt (.tup (.cons (.var 2) (.cons (.var 3) .nil)))) .nil)))
def d_measured : DD := ⟨"measured", top 25, N_measured, ["value"], ⟨1, 7, b_measured⟩, false⟩
def N_need_datum : List Str := ["value"]
def b_need_datum : G.S := (.seq (.ife (.cmp .is (.call 8 (.cons (.var 0) .nil)) (.k .non)) (.seq (.raise 0 .nil) .nil) .nil) .nil)
def d_need_datum : DD := ⟨"need_datum", top 26, N_need_datum, ["value"], ⟨1, 1, b_need_datum⟩, false⟩
def N_is_word : List Str := ["value"]
def b_is_word : G.S := (.seq (.rt (.call 3 (.cons (.var 0) .nil))) .nil)
def d_is_word : DD := ⟨"is_word", top 27, N_is_word, ["value"], ⟨1, 1, b_is_word⟩, false⟩
def N_is_datum : List Str := ["value"]
def b_is_datum : G.S := (.seq (.rt (.cmp .isnot (.call 8 (.cons (.var 0) .nil)) (.k .non))) .nil)
def d_is_datum : DD := ⟨"is_datum", top 28, N_is_datum, ["value"], ⟨1, 1, b_is_datum⟩, false⟩
def N_is_special : List Str := ["value"]
def b_is_special : G.S := (.seq (.rt (.call 5 (.cons (.var 0) .nil))) .nil)
def d_is_special : DD := ⟨"is_special", top 29, N_is_special, ["value"], ⟨1, 1, b_is_special⟩, false⟩
def N_datum_size : List Str := ["datum"]
def b_datum_size : G.S := (.seq (.expr (.call 9 (.cons (.var 0) .nil))) (.seq (.rt (.ix (.call 8 (.cons (.var 0) .nil)) (.k (.int 0)))) .nil))
def d_datum_size : DD := ⟨"datum_size", top 30, N_datum_size, ["datum"], ⟨1, 1, b_datum_size⟩, false⟩
def N_datum_depth : List Str := ["datum"]
def b_datum_depth : G.S := (.seq (.expr (.call 9 (.cons (.var 0) .nil))) (.seq (.rt (.ix (.call 8 (.cons (.var 0) .nil)) (.k (.int 1)))) .nil))
def d_datum_depth : DD := ⟨"datum_depth", top 31, N_datum_depth, ["datum"], ⟨1, 1, b_datum_depth⟩, false⟩
def N__law_cup : List Str := ["_law_script", "_law_cell"]
def b__law_cup : G.S := (.seq (.asg (.v 1) (.bi .abs (.cons (.ix (.bin .add (.bi .list (.cons (.var 0) .nil)) (.lst (.cons (.k (.int 0)) .nil))) (.k (.int 0))) .nil))) (.seq (.rt (.mlst (.cons (.ife (.cmp .ge (.var 1) (.bin .pow (.k (.int 10)) (.k (.int 18)))) (.bin .fdiv (.var 1) (.k (.int 11))) (.k (.int 0))) (.cons (.bin .add (.bin .mod (.bi .int (.cons (.bin .add (.bin .mul (.var 1) (.k (.int 193))) (.k (.int 1201))) .nil)) (.k (.int 2077504273))) (.k (.int 89))) .nil)))) .nil))
def d__law_cup : DD := ⟨"_law_cup", top 33, N__law_cup, ["_law_script"], ⟨1, 2, b__law_cup⟩, false⟩
def N__law_roll : List Str := ["_law_cup_here", "_law_many", "_law_found", "_law_deep"]
def b__law_roll : G.S := (.seq (.ife (.cmp .gt (.ix (.var 0) (.k (.int 0))) (.k (.int 0))) (.seq (.asg (.v 2) (.bin .mod (.bi .int (.cons (.ix (.var 0) (.k (.int 0))) .nil)) (.var 1))) (.seq (.seti (.var 0) (.k (.int 0)) (.bin .fdiv (.ix (.var 0) (.k (.int 0))) (.var 1))) (.seq (.rt (.var 2)) .nil))) .nil) (.seq (.seti (.var 0) (.k (.int 1)) (.bin .mod (.bi .int (.cons (.bin .add (.bin .mul (.ix (.var 0) (.k (.int 1))) (.k (.int 30671))) (.k (.int 7919))) .nil)) (.k (.int 2147483549)))) (.seq (.asg (.v 3) (.bin .mod (.bi .int (.cons (.bin .mul (.ix (.var 0) (.k (.int 1))) (.bin .add (.ix (.var 0) (.k (.int 1))) (.k (.int 131)))) .nil)) (.k (.int 2147483587)))) (.seq (.rt (.bin .mod (.bi .int (.cons (.bin .fdiv (.var 3) (.k (.int 709))) .nil)) (.var 1))) .nil))))
def d__law_roll : DD := ⟨"_law_roll", top 34, N__law_roll, ["_law_cup_here", "_law_many"], ⟨2, 4, b__law_roll⟩, false⟩
def N__law_some : List Str := ["_law_cup_here", "_law_things"]
def b__law_some : G.S := (.seq (.rt (.ix (.var 1) (.call 16 (.cons (.var 0) (.cons (.bi .len (.cons (.var 1) .nil)) .nil))))) .nil)
def d__law_some : DD := ⟨"_law_some", top 35, N__law_some, ["_law_cup_here", "_law_things"], ⟨2, 2, b__law_some⟩, false⟩
def N__law_word : List Str := ["_law_cup_here", "_law_found", "_law_turn"]
def b__law_word : G.S := (.seq (.asg (.v 1) (.k (.str []))) (.seq (.forr (.v 2) (.rng (.cons (.bin .add (.k (.int 1)) (.call 16 (.cons (.var 0) (.cons (.k (.int 6)) .nil)))) .nil)) (.seq (.asg (.v 1) (.bin .add (.var 1) (.call 17 (.cons (.var 0) (.cons (.k (.str [97, 98, 99, 100, 101, 102, 103, 104, 105, 106, 107, 108, 109, 110, 111, 112, 113, 114, 115, 116, 117, 118, 119, 120, 121, 122, 48, 49, 50, 51, 52, 53, 54, 55, 56, 57, 45, 42, 43, 47, 60, 62, 61, 33, 63, 38, 58, 97, 98, 48, 49])) .nil))))) .nil)) (.seq (.rt (.call 17 (.cons (.var 0) (.cons (.lst (.cons (.bin .add (.sl (.var 1) .no (.itr (.neg (.k (.int 1))))) (.k (.str [120]))) (.cons (.bin .add (.sl (.var 1) .no (.itr (.neg (.k (.int 1))))) (.k (.str [120]))) (.cons (.bin .add (.bin .add (.k (.str [42])) (.var 1)) (.k (.str [42]))) (.cons (.k (.str [116])) (.cons (.k (.str [43])) (.cons (.k (.str [113, 117, 111, 116, 101])) (.cons (.k (.str [102, 117, 110, 99, 116, 105, 111, 110])) (.cons (.k (.str [97, 45, 98])) .nil))))))))) .nil)))) .nil)))
def d__law_word : DD := ⟨"_law_word", top 36, N__law_word, ["_law_cup_here"], ⟨1, 3, b__law_word⟩, false⟩
def N__law_text : List Str := ["_law_cup_here", "_law_found", "_law_turn"]
def b__law_text : G.S := (.seq (.asg (.v 1) (.k (.str []))) (.seq (.forr (.v 2) (.rng (.cons (.call 16 (.cons (.var 0) (.cons (.k (.int 5)) .nil))) .nil)) (.seq (.asg (.v 1) (.bin .add (.var 1) (.call 17 (.cons (.var 0) (.cons (.lst (.cons (.k (.str [97])) (.cons (.k (.str [32])) (.cons (.k (.str [34])) (.cons (.k (.str [92])) (.cons (.k (.str [40])) (.cons (.k (.str [39])) (.cons (.k (.str [10])) (.cons (.k (.str [126])) (.cons (.k (.str [90])) (.cons (.k (.str [57])) (.cons (.k (.str [35, 39])) .nil)))))))))))) .nil))))) .nil)) (.seq (.rt (.bin .add (.k (.str [34])) (.var 1))) .nil)))
def d__law_text : DD := ⟨"_law_text", top 37, N__law_text, ["_law_cup_here"], ⟨1, 3, b__law_text⟩, false⟩
def N__law_datum : List Str := ["_law_cup_here", "_law_deep", "_law_way", "_law_turn"]
def b__law_datum : G.S := (.seq (.asg (.v 2) (.call 16 (.cons (.var 0) (.cons (.ife (.cmp .gt (.var 1) (.k (.int 0))) (.k (.int 9)) (.k (.int 5))) .nil)))) (.seq (.ife (.cmp .lt (.var 2) (.k (.int 2))) (.seq (.rt (.call 17 (.cons (.var 0) (.cons (.lst (.cons (.call 16 (.cons (.var 0) (.cons (.k (.int 10)) .nil))) (.cons (.bin .sub (.k (.int 0)) (.call 16 (.cons (.var 0) (.cons (.k (.int 2000)) .nil)))) (.cons (.bin .pow (.k (.int 10)) (.k (.int 12))) (.cons (.bin .sub (.k (.int 0)) (.bin .pow (.k (.int 10)) (.k (.int 12)))) (.cons (.call 16 (.cons (.var 0) (.cons (.bin .pow (.k (.int 10)) (.k (.int 12))) .nil))) .nil)))))) .nil)))) .nil) .nil) (.seq (.ife (.cmp .lt (.var 2) (.k (.int 4))) (.seq (.rt (.ife (.cmp .eq (.call 16 (.cons (.var 0) (.cons (.k (.int 3)) .nil))) (.k (.int 0))) (.call 19 (.cons (.var 0) .nil)) (.call 18 (.cons (.var 0) .nil)))) .nil) .nil) (.seq (.ife (.cmp .eq (.var 2) (.k (.int 4))) (.seq (.rt (.tup .nil)) .nil) .nil) (.seq (.ife (.cmp .eq (.var 2) (.k (.int 5))) (.seq (.rt (.tup (.cons (.call 17 (.cons (.var 0) (.cons (.lst (.cons (.k (.str [113, 117, 111, 116, 101])) (.cons (.k (.str [102, 117, 110, 99, 116, 105, 111, 110])) .nil))) .nil))) (.cons (.call 20 (.cons (.var 0) (.cons (.bin .sub (.var 1) (.k (.int 1))) .nil))) .nil)))) .nil) .nil) (.seq (.rt (.bi .tuple (.cons (.lc (.v 3) (.rng (.cons (.call 16 (.cons (.var 0) (.cons (.k (.int 5)) .nil))) .nil)) .nil (.call 20 (.cons (.var 0) (.cons (.bin .sub (.var 1) (.k (.int 1))) .nil))) [3]) .nil))) .nil))))))
def d__law_datum : DD := ⟨"_law_datum", top 38, N__law_datum, ["_law_cup_here", "_law_deep"], ⟨2, 4, b__law_datum⟩, false⟩
def N__law_size : List Str := ["_law_datum_here", "_law_pairs", "_law_item", "_law_size_here", "_law_depth"]
def b__law_size : G.S := (.seq (.asg (.v 1) (.ife (.bi .isi (.cons (.var 0) (.cons (.k (.ty "tuple")) .nil))) (.lc (.v 2) (.itr (.var 0)) .nil (.call 21 (.cons (.var 2) .nil)) [2]) (.lst .nil))) (.seq (.rt (.tup (.cons (.bin .add (.k (.int 1)) (.bi .sum (.cons (.lc (.cons (.v 3) (.cons (.v 4) .nil)) (.itr (.var 1)) .nil (.var 3) [3, 4]) .nil))) (.cons (.bin .add (.k (.int 1)) (.bi .max (.cons (.bin .add (.lst (.cons (.k (.int 0)) .nil)) (.lc (.cons (.v 3) (.cons (.v 4) .nil)) (.itr (.var 1)) .nil (.var 4) [3, 4])) .nil))) .nil)))) .nil))
def d__law_size : DD := ⟨"_law_size", top 39, N__law_size, ["_law_datum_here"], ⟨1, 5, b__law_size⟩, false⟩
def N__law_is_word : List Str := ["_law_value", "_law_signs", "_law_rest", "_law_sign"]
def b__law_is_word : G.S := (.seq (.asg (.cons (.v 1) (.cons (.v 2) .nil)) (.tup (.cons (.k (.str [97, 98, 99, 100, 101, 102, 103, 104, 105, 106, 107, 108, 109, 110, 111, 112, 113, 114, 115, 116, 117, 118, 119, 120, 121, 122, 48, 49, 50, 51, 52, 53, 54, 55, 56, 57, 45, 42, 43, 47, 60, 62, 61, 33, 63, 38, 58])) (.cons (.ife (.cmp .isin (.sl (.var 0) .no (.itr (.k (.int 1)))) (.tup (.cons (.k (.str [43])) (.cons (.k (.str [45])) .nil)))) (.sl (.var 0) (.itr (.k (.int 1))) .no) (.var 0)) .nil)))) (.seq (.ife (.or (.not (.chain .le .le (.k (.int 1)) (.bi .len (.cons (.var 0) .nil)) (.k (.int 20)))) (.or (.cmp .eq (.var 0) (.k (.str [110, 105, 108]))) (.cmp .ne (.lc (.v 3) (.itr (.var 0)) (.cons (.cmp .notin (.var 3) (.var 1)) .nil) (.var 3) [3]) (.lst .nil)))) (.seq (.rt (.k (.bl false))) .nil) .nil) (.seq (.rt (.or (.cmp .eq (.var 2) (.k (.str []))) (.cmp .ne (.lc (.v 3) (.itr (.var 2)) (.cons (.cmp .notin (.var 3) (.k (.str [48, 49, 50, 51, 52, 53, 54, 55, 56, 57]))) .nil) (.var 3) [3]) (.lst .nil)))) .nil)))
def d__law_is_word : DD := ⟨"_law_is_word", top 41, N__law_is_word, ["_law_value"], ⟨1, 4, b__law_is_word⟩, false⟩
def N__law_spoilt : List Str := ["_law_cup_here", "_law_datum_here", "_law_at"]
def b__law_spoilt : G.S := (.seq (.ife (.or (.not (.bi .isi (.cons (.var 1) (.cons (.k (.ty "tuple")) .nil)))) (.or (.cmp .eq (.var 1) (.tup .nil)) (.cmp .eq (.call 16 (.cons (.var 0) (.cons (.k (.int 3)) .nil))) (.k (.int 0))))) (.seq (.rt (.call 17 (.cons (.var 0) (.cons (.lst (.cons (.k .non) (.cons (.k (.bl true)) (.cons (.k (.str [])) (.cons (.k (.str [110, 105, 108])) (.cons (.k (.str [65])) (.cons (.k (.str [45, 53])) (.cons (.bin .add (.bin .pow (.k (.int 10)) (.k (.int 12))) (.k (.int 1))) (.cons (.bin .sub (.bin .sub (.k (.int 0)) (.bin .pow (.k (.int 10)) (.k (.int 12)))) (.k (.int 1))) (.cons (.lst (.cons (.var 1) .nil)) (.cons (.k (.str [97, 32, 98])) (.cons (.bin .mul (.k (.str [120])) (.k (.int 21))) .nil)))))))))))) .nil)))) .nil) .nil) (.seq (.asg (.v 2) (.call 16 (.cons (.var 0) (.cons (.bi .len (.cons (.var 1) .nil)) .nil)))) (.seq (.rt (.bin .add (.bin .add (.sl (.var 1) .no (.itr (.var 2))) (.tup (.cons (.call 23 (.cons (.var 0) (.cons (.ix (.var 1) (.var 2)) .nil))) .nil))) (.sl (.var 1) (.itr (.bin .add (.var 2) (.k (.int 1)))) .no))) .nil)))
def d__law_spoilt : DD := ⟨"_law_spoilt", top 42, N__law_spoilt, ["_law_cup_here", "_law_datum_here"], ⟨2, 3, b__law_spoilt⟩, false⟩
def N_law : List Str := ["_law_script", "_law_cup_here", "_law_turn", "_law_datum_here", "_law_size_here", "_law_depth", "_law_odd", "_law_words", "_law_row", "_law_other", "_law_is_special_so", "_law_told", "_law_good", "_law_bad", "_law_specials", "_law_deep", "_law_wide", "_law_word_here", "_law_place", "_law_many", "_law_sign"]
def b_law : G.S := (.seq (.asg (.v 1) (.call 15 (.cons (.var 0) .nil))) (.seq (.forr (.v 2) (.rng (.cons (.k (.int 3)) .nil)) (.seq (.asg (.v 3) (.call 20 (.cons (.var 1) (.cons (.bin .add (.k (.int 1)) (.call 16 (.cons (.var 1) (.cons (.k (.int 4)) .nil)))) .nil)))) (.seq (.asg (.cons (.v 4) (.cons (.v 5) .nil)) (.call 21 (.cons (.var 3) .nil))) (.seq (.ife (.or (.cmp .isnot (.call 11 (.cons (.var 3) .nil)) (.k (.bl true))) (.cmp .ne (.tup (.cons (.call 13 (.cons (.var 3) .nil)) (.cons (.call 14 (.cons (.var 3) .nil)) .nil))) (.tup (.cons (.var 4) (.cons (.var 5) .nil))))) (.seq (.rt (.k (.bl false))) .nil) .nil) (.seq (.asg (.v 6) (.call 23 (.cons (.var 1) (.cons (.var 3) .nil)))) (.seq (.asg (.v 7) (.mlst (.cons (.clo 0 (.call 13 (.cons (.var 6) .nil))) .nil))) (.seq (.expr (.meth .append (.var 7) (.cons (.clo 0 (.call 14 (.cons (.var 6) .nil))) .nil))) (.seq (.ife (.or (.cmp .isnot (.call 11 (.cons (.var 6) .nil)) (.k (.bl false))) (.cmp .ne (.var 7) (.bin .mul (.lst (.cons (.k (.str [100, 97, 116, 117, 109])) .nil)) (.k (.int 2))))) (.seq (.rt (.k (.bl false))) .nil) .nil) .nil)))))))) (.seq (.forr (.v 2) (.rng (.cons (.k (.int 6)) .nil)) (.seq (.asg (.v 8) (.meth .join (.k (.str [])) (.cons (.lc (.v 18) (.rng (.cons (.call 16 (.cons (.var 1) (.cons (.k (.int 5)) .nil))) .nil)) .nil (.call 17 (.cons (.var 1) (.cons (.k (.str [48, 48, 49, 50, 97, 98, 43, 45, 42, 58, 110, 105, 108, 116, 57])) .nil))) [18]) .nil))) (.seq (.asg (.v 9) (.ife (.cmp .eq (.call 16 (.cons (.var 1) (.cons (.k (.int 2)) .nil))) (.k (.int 0))) (.call 18 (.cons (.var 1) .nil)) (.var 8))) (.seq (.asg (.v 10) (.and (.cmp .gt (.bi .len (.cons (.var 9) .nil)) (.k (.int 2))) (.and (.chain .eq .eq (.ix (.var 9) (.k (.int 0))) (.k (.str [42])) (.ix (.var 9) (.neg (.k (.int 1))))) (.cmp .ne (.lc (.v 20) (.itr (.var 9)) (.cons (.cmp .isin (.var 20) (.k (.str [97, 98, 99, 100, 101, 102, 103, 104, 105, 106, 107, 108, 109, 110, 111, 112, 113, 114, 115, 116, 117, 118, 119, 120, 121, 122, 48, 49, 50, 51, 52, 53, 54, 55, 56, 57]))) .nil) (.var 20) [20]) (.lst .nil))))) (.seq (.asg (.v 11) (.lst (.cons (.call 10 (.cons (.var 9) .nil)) (.cons (.call 12 (.cons (.var 9) .nil)) .nil)))) (.seq (.ife (.or (.cmp .ne (.var 11) (.lst (.cons (.call 22 (.cons (.var 9) .nil)) (.cons (.and (.var 10) (.call 22 (.cons (.var 9) .nil))) .nil)))) (.not (.bi .isi (.cons (.ix (.var 11) (.k (.int 0))) (.cons (.k (.ty "bool")) .nil))))) (.seq (.rt (.k (.bl false))) .nil) .nil) .nil)))))) (.seq (.asg (.v 12) (.lst (.cons (.k (.str [97, 43, 98])) (.cons (.k (.str [49, 43])) (.cons (.k (.str [45])) (.cons (.k (.str [43])) (.cons (.k (.str [116])) (.cons (.k (.str [58, 120])) (.cons (.k (.str [58])) (.cons (.k (.str [109, 117, 108, 116, 105, 112, 108, 101, 45, 118, 97, 108, 117, 101, 45, 112, 114, 111, 103, 49])) (.cons (.k (.str [43, 97, 53])) (.cons (.k (.str [53, 97])) (.cons (.k (.str [110, 105, 108, 108])) (.cons (.k (.str [42])) .nil)))))))))))))) (.seq (.asg (.v 13) (.lst (.cons (.k (.str [110, 105, 108])) (.cons (.k (.str [45, 53])) (.cons (.k (.str [43, 53])) (.cons (.k (.str [48, 48, 55])) (.cons (.k (.str [53])) (.cons (.k (.str [])) (.cons (.k (.str [65])) (.cons (.k (.str [97, 32, 98])) (.cons (.k (.str [97, 40])) (.cons (.k (.str [97, 39])) (.cons (.k (.str [97, 34])) (.cons (.k (.str [97, 35])) (.cons (.bin .mul (.k (.str [120])) (.k (.int 21))) (.cons (.k .non) (.cons (.k (.int 5)) (.cons (.tup (.cons (.k (.str [97])) .nil)) (.cons (.k (.str [45, 48])) (.cons (.k (.str [97, 10])) .nil)))))))))))))))))))) (.seq (.ife (.cmp .ne (.bin .add (.lc (.v 17) (.itr (.var 12)) (.cons (.cmp .isnot (.call 10 (.cons (.var 17) .nil)) (.k (.bl true))) .nil) (.var 17) [17]) (.lc (.v 17) (.itr (.var 13)) (.cons (.cmp .isnot (.call 10 (.cons (.var 17) .nil)) (.k (.bl false))) .nil) (.var 17) [17])) (.lst .nil)) (.seq (.rt (.k (.bl false))) .nil) .nil) (.seq (.asg (.v 14) (.lc (.v 17) (.itr (.tup (.cons (.k (.str [42, 120, 42])) (.cons (.k (.str [42, 49, 42])) (.cons (.k (.str [42, 33, 49, 42])) (.cons (.k (.str [42, 42])) (.cons (.k (.str [42, 42, 42])) (.cons (.k (.str [42])) (.cons (.k (.str [42, 45, 42])) (.cons (.k (.str [120, 42])) (.cons (.k (.str [42, 120])) (.cons (.k (.str [116])) (.cons (.k .non) (.cons (.k (.str [42, 42, 120, 42, 42])) .nil)))))))))))))) .nil (.call 12 (.cons (.var 17) .nil)) [17])) (.seq (.ife (.cmp .ne (.var 14) (.lst (.cons (.k (.bl true)) (.cons (.k (.bl true)) (.cons (.k (.bl true)) (.cons (.k (.bl false)) (.cons (.k (.bl false)) (.cons (.k (.bl false)) (.cons (.k (.bl false)) (.cons (.k (.bl false)) (.cons (.k (.bl false)) (.cons (.k (.bl false)) (.cons (.k (.bl false)) (.cons (.k (.bl true)) .nil)))))))))))))) (.seq (.rt (.k (.bl false))) .nil) .nil) (.seq (.asg (.v 15) (.tup .nil)) (.seq (.forr (.v 2) (.rng (.cons (.k (.int 59)) .nil)) (.seq (.asg (.v 15) (.tup (.cons (.var 15) .nil))) .nil)) (.seq (.asg (.v 16) (.bin .mul (.tup (.cons (.k (.int 1)) .nil)) (.k (.int 999)))) (.seq (.ife (.or (.cmp .isnot (.call 11 (.cons (.var 15) .nil)) (.k (.bl true))) (.or (.cmp .isnot (.call 11 (.cons (.tup (.cons (.var 15) .nil)) .nil)) (.k (.bl false))) (.or (.cmp .isnot (.call 11 (.cons (.var 16) .nil)) (.k (.bl true))) (.cmp .isnot (.call 11 (.cons (.bin .add (.var 16) (.tup (.cons (.k (.int 1)) .nil))) .nil)) (.k (.bl false)))))) (.seq (.rt (.k (.bl false))) .nil) .nil) (.seq (.ife (.or (.cmp .ne (.lc (.v 19) (.itr (.tup (.cons (.k (.int 0)) (.cons (.k (.int 400)) (.cons (.k (.int 401)) .nil))))) .nil (.call 11 (.cons (.bin .add (.k (.str [34])) (.bin .mul (.k (.str [97])) (.var 19))) .nil)) [19]) (.lst (.cons (.k (.bl true)) (.cons (.k (.bl true)) (.cons (.k (.bl false)) .nil))))) (.or (.cmp .ne (.call 14 (.cons (.var 15) .nil)) (.k (.int 60))) (.cmp .ne (.call 13 (.cons (.var 16) .nil)) (.k (.int 1000))))) (.seq (.rt (.k (.bl false))) .nil) .nil) (.seq (.rt (.and (.cmp .eq (.tup (.cons (.call 13 (.cons (.tup (.cons (.k (.int 1)) (.cons (.tup (.cons (.k (.str [120])) .nil)) .nil))) .nil)) (.cons (.call 14 (.cons (.tup (.cons (.k (.int 1)) (.cons (.tup (.cons (.k (.str [120])) .nil)) .nil))) .nil)) .nil))) (.tup (.cons (.k (.int 4)) (.cons (.k (.int 3)) .nil)))) (.and (.cmp .is (.call 11 (.cons (.lst (.cons (.k (.int 1)) .nil)) .nil)) (.k (.bl false))) (.cmp .eq (.call 14 (.cons (.tup .nil) .nil)) (.k (.int 1)))))) .nil))))))))))))))
def d_law : DD := ⟨"law", top 43, N_law, ["_law_script"], ⟨1, 21, b_law⟩, true⟩
def t__law_error : TD := ⟨"_law_error", top 40, [some [100, 97, 116, 117, 109]]⟩
def pk : Pk := { ds := [d_is_whole, d_is_made_of, d_is_figures, d_fits_word, d_fits_name, d_fits_special, d_fits_text, d_is_atom, d_measured, d_need_datum, d_is_word, d_is_datum, d_is_special, d_datum_size, d_datum_depth, d__law_cup, d__law_roll, d__law_some, d__law_word, d__law_text, d__law_datum, d__law_size, d__law_is_word, d__law_spoilt, d_law], tls := [t__law_error], cs := [("SIZE", .int 1000), ("DEPTH", .int 60), ("GREATEST", .int 1000000000000), ("LONGEST", .int 20), ("TEXT", .int 400), ("FIGURES", .str [48, 49, 50, 51, 52, 53, 54, 55, 56, 57]), ("WITHIN", .str [97, 98, 99, 100, 101, 102, 103, 104, 105, 106, 107, 108, 109, 110, 111, 112, 113, 114, 115, 116, 117, 118, 119, 120, 121, 122, 48, 49, 50, 51, 52, 53, 54, 55, 56, 57]), ("SIGNS", .str [97, 98, 99, 100, 101, 102, 103, 104, 105, 106, 107, 108, 109, 110, 111, 112, 113, 114, 115, 116, 117, 118, 119, 120, 121, 122, 48, 49, 50, 51, 52, 53, 54, 55, 56, 57, 45, 42, 43, 47, 60, 62, 61, 33, 63, 38, 58])], xs := ["InvalidDatum"], hs := ["InvalidDatum"], exms := [("InvalidDatum", "InvalidDatum", true)], fuel := 1000000, lam := some "law" }
theorem c_is_whole : DChk pk d_is_whole := ⟨C8.fnScope_by (by decide +kernel), rfl, rfl, fun _ _ _ _ _ _ us h => match us, h with | [_, _, _], _ => rfl, by decide +kernel⟩
theorem c_is_made_of : DChk pk d_is_made_of := ⟨C8.fnScope_by (by decide +kernel), rfl, rfl, fun _ _ _ _ _ _ us h => match us, h with | [_, _], _ => rfl, by decide +kernel⟩
theorem c_is_figures : DChk pk d_is_figures := ⟨C8.fnScope_by (by decide +kernel), rfl, rfl, fun _ _ _ _ _ _ us h => match us, h with | [_], _ => rfl, by decide +kernel⟩
theorem c_fits_word : DChk pk d_fits_word := ⟨C8.fnScope_by (by decide +kernel), rfl, rfl, fun _ _ _ _ _ _ us h => match us, h with | [_], _ => rfl, by decide +kernel⟩
theorem c_fits_name : DChk pk d_fits_name := ⟨C8.fnScope_by (by decide +kernel), rfl, rfl, fun _ _ _ _ _ _ us h => match us, h with | [_], _ => rfl, by decide +kernel⟩
theorem c_fits_special : DChk pk d_fits_special := ⟨C8.fnScope_by (by decide +kernel), rfl, rfl, fun _ _ _ _ _ _ us h => match us, h with | [_], _ => rfl, by decide +kernel⟩
theorem c_fits_text : DChk pk d_fits_text := ⟨C8.fnScope_by (by decide +kernel), rfl, rfl, fun _ _ _ _ _ _ us h => match us, h with | [_], _ => rfl, by decide +kernel⟩
theorem c_is_atom : DChk pk d_is_atom := ⟨C8.fnScope_by (by decide +kernel), rfl, rfl, fun _ _ _ _ _ _ us h => match us, h with | [_], _ => rfl, by decide +kernel⟩
theorem c_measured : DChk pk d_measured := ⟨C8.fnScope_by (by decide +kernel), rfl, rfl, fun _ _ _ _ _ _ us h => match us, h with | [_], _ => rfl, by decide +kernel⟩
theorem c_need_datum : DChk pk d_need_datum := ⟨C8.fnScope_by (by decide +kernel), rfl, rfl, fun _ _ _ _ _ _ us h => match us, h with | [_], _ => rfl, by decide +kernel⟩
theorem c_is_word : DChk pk d_is_word := ⟨C8.fnScope_by (by decide +kernel), rfl, rfl, fun _ _ _ _ _ _ us h => match us, h with | [_], _ => rfl, by decide +kernel⟩
theorem c_is_datum : DChk pk d_is_datum := ⟨C8.fnScope_by (by decide +kernel), rfl, rfl, fun _ _ _ _ _ _ us h => match us, h with | [_], _ => rfl, by decide +kernel⟩
theorem c_is_special : DChk pk d_is_special := ⟨C8.fnScope_by (by decide +kernel), rfl, rfl, fun _ _ _ _ _ _ us h => match us, h with | [_], _ => rfl, by decide +kernel⟩
theorem c_datum_size : DChk pk d_datum_size := ⟨C8.fnScope_by (by decide +kernel), rfl, rfl, fun _ _ _ _ _ _ us h => match us, h with | [_], _ => rfl, by decide +kernel⟩
theorem c_datum_depth : DChk pk d_datum_depth := ⟨C8.fnScope_by (by decide +kernel), rfl, rfl, fun _ _ _ _ _ _ us h => match us, h with | [_], _ => rfl, by decide +kernel⟩
theorem c__law_cup : DChk pk d__law_cup := ⟨C8.fnScope_by (by decide +kernel), rfl, rfl, fun _ _ _ _ _ _ us h => match us, h with | [_], _ => rfl, by decide +kernel⟩
theorem c__law_roll : DChk pk d__law_roll := ⟨C8.fnScope_by (by decide +kernel), rfl, rfl, fun _ _ _ _ _ _ us h => match us, h with | [_, _], _ => rfl, by decide +kernel⟩
theorem c__law_some : DChk pk d__law_some := ⟨C8.fnScope_by (by decide +kernel), rfl, rfl, fun _ _ _ _ _ _ us h => match us, h with | [_, _], _ => rfl, by decide +kernel⟩
theorem c__law_word : DChk pk d__law_word := ⟨C8.fnScope_by (by decide +kernel), rfl, rfl, fun _ _ _ _ _ _ us h => match us, h with | [_], _ => rfl, by decide +kernel⟩
theorem c__law_text : DChk pk d__law_text := ⟨C8.fnScope_by (by decide +kernel), rfl, rfl, fun _ _ _ _ _ _ us h => match us, h with | [_], _ => rfl, by decide +kernel⟩
theorem c__law_datum : DChk pk d__law_datum := ⟨C8.fnScope_by (by decide +kernel), rfl, rfl, fun _ _ _ _ _ _ us h => match us, h with | [_, _], _ => rfl, by decide +kernel⟩
theorem c__law_size : DChk pk d__law_size := ⟨C8.fnScope_by (by decide +kernel), rfl, rfl, fun _ _ _ _ _ _ us h => match us, h with | [_], _ => rfl, by decide +kernel⟩
theorem c__law_is_word : DChk pk d__law_is_word := ⟨C8.fnScope_by (by decide +kernel), rfl, rfl, fun _ _ _ _ _ _ us h => match us, h with | [_], _ => rfl, by decide +kernel⟩
theorem c__law_spoilt : DChk pk d__law_spoilt := ⟨C8.fnScope_by (by decide +kernel), rfl, rfl, fun _ _ _ _ _ _ us h => match us, h with | [_, _], _ => rfl, by decide +kernel⟩
theorem c_law : DChk pk d_law := ⟨C8.fnScope_by (by decide +kernel), rfl, rfl, fun _ _ _ _ _ _ us h => match us, h with | [_], _ => rfl, by decide +kernel⟩
theorem ok : PkOk pk := ⟨⟨c_is_whole, c_is_made_of, c_is_figures, c_fits_word, c_fits_name, c_fits_special, c_fits_text, c_is_atom, c_measured, c_need_datum, c_is_word, c_is_datum, c_is_special, c_datum_size, c_datum_depth, c__law_cup, c__law_roll, c__law_some, c__law_word, c__law_text, c__law_datum, c__law_size, c__law_is_word, c__law_spoilt, c_law, trivial⟩, by decide +kernel, by
  intro d hd
  simp only [pk, List.mem_cons, List.not_mem_nil, or_false] at hd
  rcases hd with rfl | rfl | rfl | rfl | rfl | rfl | rfl | rfl | rfl | rfl | rfl | rfl | rfl | rfl | rfl | rfl | rfl | rfl | rfl | rfl | rfl | rfl | rfl | rfl | rfl <;> intro h <;> first | rfl | cases h⟩
section
variable {K : PySem.W.Frag} {h : Heap} {mg : Str → Option Value}
theorem tell__law_error (X : K.In h) (G : h.Ns mainGlobals mg) (c : He.SaysE pk.fa pk.fn K) (T : List (Addr × Str)) : TellK K mg (pk.cn K T) t__law_error.x t__law_error.row := by
  have ht : t__law_error ∈ pk.tls := by simp [pk]
  obtain ⟨oc, od, osl, kV, doc, pm, an, cdv, ct, lk, hcd⟩ := tl_fn c ht
  refine ⟨He.ga K "_law_error", defArgs (top 40), defBody (top 40), defScope (top 40), kV, doc, pm, cdv, ct, oc, an, od, osl, ["_law_call", "e"], "_law_call", "", _, _, [(.ref (He.ga K "InvalidDatum"), some [100, 97, 116, 117, 109])], _, _, _, _, _, _, _, tl_glo X G c ht, tl_keep c ht, lk, hcd, .all (fun us h => match us, h with | [_], _ => rfl), C8.fnScope_by (by decide +kernel), rfl, .inl rfl, by decide, by decide, rfl, by decide +kernel, .ret rfl (glo_h X G c (x := "InvalidDatum") (by decide +kernel)) (by decide) (by decide +kernel) (.nil), fun cc t ad hr hc => ?_⟩
  simp only [t__law_error] at hr
  rcases cc with _ | cc
  · simp only [List.getElem?_cons_zero, Option.some.injEq] at hr
    subst hr
    have ea : ad = He.ga K "InvalidDatum" := by simpa [Pk.cn, pk] using hc.symm
    subst ea
    exact ⟨by simp only [tellOf, exm_h c (x := "InvalidDatum") (y := "InvalidDatum") (b := true) (by decide +kernel)], by unfold okS; decide +kernel⟩
  simp only [List.getElem?_cons_succ] at hr
  simp at hr
theorem tells (X : K.In h) (G : h.Ns mainGlobals mg) (c : He.SaysE pk.fa pk.fn K) (T : List (Addr × Str)) : ∀ t ∈ pk.tls, TellK K mg (pk.cn K T) t.x t.row := by
  intro t ht
  simp only [pk, List.mem_cons, List.not_mem_nil, or_false] at ht
  rcases ht with rfl
  · exact tell__law_error X G c T
end
end K00

set_option Elab.async false
set_option linter.all false
set_option autoImplicit false
set_option maxRecDepth 100000
set_option maxHeartbeats 4000000
/-! GP: words for the plain laws. -/
namespace G
/-- a def of the program, called -/
theorem call_eq {P : Pg} {d n : Nat} {df : Def} {args : List W} {s : ST} (h : P.defs[n]? = some df) (hl : args.length = df.np) : callD P (d + 1) n args s =
    match evS P (callD P d) df.body (args.map some ++ List.replicate (df.nl - df.np) none) s with
        | .ok .nx _ s' => .ok .non s'
        | .ok (.rt w) _ s' => .ok w s'
        | .exc c l _ s' => .exc c l s'
        | _ => .err := by
  rw [callD]
  simp only [h]
  rw [if_pos hl]
  first
    | done
    | (split <;> simp_all)
end G
namespace G
section
variable {s : ST}
theorem wEq_str (x y : List Nat) : wEq s (.str x) (.str y) = some (x == y) := rfl
theorem wEq_int (x y : Int) : wEq s (.int x) (.int y) = some (x == y) := rfl
theorem wEq_bl (x y : Bool) : wEq s (.bl x) (.bl y) = some (x == y) := rfl
theorem cmp_in1 (c : Nat) (y : List Nat) : cmpop .isin (.str [c]) (.str y) s = some (decide (c ∈ y)) := rfl
theorem cmp_notin1 (c : Nat) (y : List Nat) : cmpop .notin (.str [c]) (.str y) s = some (!decide (c ∈ y)) := rfl
/-- rounds that keep the store -/
theorem comp_map {f : W → M (Option W)} {g : W → Option W} : ∀ {xs : List W}, (∀ x ∈ xs, f x s = .ok (g x) s) → comp f xs s = .ok (xs.filterMap g) s
  | [], _ => rfl
  | x :: xs, h => by
    have h1 := h x List.mem_cons_self
    have h2 := comp_map (fun y hy => h y (List.mem_cons_of_mem x hy))
    simp only [comp, bnd, h1, h2, ret]
    cases e : g x with
    | none => simp [ocons, e]
    | some y => simp [ocons, e]
end
end G
namespace G
section
variable {P : Pg} {call : Nat → List W → M W} {env : Env} {s s' : ST}
def stepG (P : Pg) (call : Nat → List W → M W) (t : T) (ifs e : E) (own : List Nat) (env : Env) : W → M (Option W) := fun w =>
  match asg t w (wipes env own) with
  | some env' => bnd (evB P call ifs env') fun r => if r then bnd (evE P call e env') fun y => ret (some y) else ret none
  | none => fail
theorem evE_lc {t : T} {it ifs e : E} {own : List Nat} : evE P call (.lc t it ifs e own) env s = bnd (evI P call it env) (fun src => bnd (noexc (fits (compS (stepG P call t ifs e own env) P.fuel src))) fun ys => ret (.lst ys)) s := by rw [evE]; rfl
def stepH (P : Pg) (call : Nat → List W → M W) (t : T) (b : S) : W → Env → ST → RS := fun w env s => match asg t w env with
  | some env' => evS P call b env' s
  | none => .err
theorem evS_for {t : T} {it : E} {b : S} : evS P call (.forr t it b) env s = eS (evI P call it env) env (fun src s' => forA (stepH P call t b) P.fuel src env s') s := by rw [evS]; rfl
theorem lc_row {t : T} {it ifs e : E} {own : List Nat} {xs : List W} (hi : evI P call it env s = .ok (.row xs) s') (g : W → Option W)
    (hg : ∀ x ∈ xs, ∃ env', asg t x (wipes env own) = some env' ∧ ((g x = none ∧ evB P call ifs env' s' = .ok false s') ∨ ∃ y, g x = some y ∧ evB P call ifs env' s' = .ok true s' ∧ evE P call e env' s' = .ok y s'))
    (hl : xs.length ≤ line) : evE P call (.lc t it ifs e own) env s = .ok (.lst (xs.filterMap g)) s' := by
  have hc := comp_map (f := stepG P call t ifs e own env) (g := g) (s := s') (xs := xs) (fun x hx => by
    obtain ⟨env', e1, h | ⟨y, h1, h2, h3⟩⟩ := hg x hx
    · simp [stepG, e1, bnd, h.2, ret, h.1]
    · simp [stepG, e1, bnd, h2, h3, ret, h1])
  have hl2 : (xs.filterMap g).length ≤ line := Nat.le_trans (List.length_filterMap_le g xs) hl
  rw [evE_lc]
  simp only [bnd, hi, noexc, fits, compS, hc]
  rw [if_pos hl2]
  rfl
/-- a comprehension whose items change the store -/
theorem comp_inv {f : W → M (Option W)} (Inv : Nat → List W → ST → Prop) : ∀ {xs : List W} {i : Nat} {acc : List W} {s : ST}, Inv i acc s → (∀ j x acc s, xs[j]? = some x → Inv (i + j) acc s → ∃ o s', f x s = .ok o s' ∧ Inv (i + j + 1) (acc ++ o.toList) s') →
    ∃ ys s', comp f xs s = .ok ys s' ∧ Inv (i + xs.length) (acc ++ ys) s'
  | [], i, acc, s, h0, _ => ⟨[], s, rfl, by simpa using h0⟩
  | x :: xs, i, acc, s, h0, hs => by
    obtain ⟨o, s1, e1, h1⟩ := hs 0 x acc s rfl h0
    obtain ⟨ys, s2, e2, h2⟩ := comp_inv (f := f) Inv (xs := xs) (i := i + 1) (acc := acc ++ o.toList) (s := s1) h1 (fun j y acc s hj hi => by
      have := hs (j + 1) y acc s (by simpa using hj) (by rw [show i + (j + 1) = i + 1 + j from by omega]; exact hi)
      rw [show i + (j + 1) + 1 = i + 1 + j + 1 from by omega] at this
      exact this)
    refine ⟨ocons o ys, s2, by simp only [comp, bnd, e1, e2]; rfl, ?_⟩
    rw [List.length_cons, show i + (xs.length + 1) = i + 1 + xs.length from by omega]
    cases o with
    | none => simpa [ocons, Option.toList] using h2
    | some y => simpa [ocons, Option.toList] using h2
theorem lc_inv {t : T} {it ifs e : E} {own : List Nat} {xs : List W} (hi : evI P call it env s = .ok (.row xs) s') (Inv : Nat → List W → ST → Prop) (h0 : Inv 0 [] s')
    (hs : ∀ j x acc s, xs[j]? = some x → Inv j acc s → ∃ env', asg t x (wipes env own) = some env' ∧ ((∃ s1, evB P call ifs env' s = .ok false s1 ∧ Inv (j + 1) acc s1) ∨ ∃ s1 y s2, evB P call ifs env' s = .ok true s1 ∧ evE P call e env' s1 = .ok y s2 ∧ Inv (j + 1) (acc ++ [y]) s2))
    (hl : ∀ ys s, Inv xs.length ys s → ys.length ≤ line) : ∃ ys s2, evE P call (.lc t it ifs e own) env s = .ok (.lst ys) s2 ∧ Inv xs.length ys s2 := by
  obtain ⟨ys, s2, e1, h1⟩ := comp_inv (f := stepG P call t ifs e own env) Inv (xs := xs) (i := 0) (acc := []) h0 (fun j x acc s hj hi => by
    rw [Nat.zero_add] at hi ⊢
    obtain ⟨env', e1, ⟨s1, h1, h2⟩ | ⟨s1, y, s2, h1, h2, h3⟩⟩ := hs j x acc s hj hi
    · exact ⟨none, s1, by simp [stepG, e1, bnd, h1, ret], by simpa using h2⟩
    · exact ⟨some y, s2, by simp [stepG, e1, bnd, h1, h2, ret], h3⟩)
  rw [Nat.zero_add, List.nil_append] at h1
  refine ⟨ys, s2, ?_, h1⟩
  rw [evE_lc]
  simp only [bnd, hi, noexc, fits, compS, e1]
  rw [if_pos (hl _ _ h1)]
  rfl
theorem forS_inv {b : W → Env → ST → RS} (Inv : Nat → Env → ST → Prop) : ∀ {xs : List W} {i : Nat} {env : Env} {s : ST}, Inv i env s → (∀ j x env s, xs[j]? = some x → Inv (i + j) env s → ∃ env' s', b x env s = .ok .nx env' s' ∧ Inv (i + j + 1) env' s') → ∃ env' s', forS b xs env s = .ok .nx env' s' ∧ Inv (i + xs.length) env' s'
  | [], i, env, s, h0, _ => ⟨env, s, rfl, h0⟩
  | x :: xs, i, env, s, h0, hs => by
    obtain ⟨env1, s1, e1, h1⟩ := hs 0 x env s rfl h0
    obtain ⟨env2, s2, e2, h2⟩ := forS_inv (b := b) Inv (xs := xs) (i := i + 1) h1 (fun j y env s hj hi => by
      have := hs (j + 1) y env s (by simpa using hj) (by rw [show i + (j + 1) = i + 1 + j from by omega]; exact hi)
      rw [show i + (j + 1) + 1 = i + 1 + j + 1 from by omega] at this
      exact this)
    refine ⟨env2, s2, by simp only [forS, e1, e2], ?_⟩
    rw [List.length_cons, show i + (xs.length + 1) = i + 1 + xs.length from by omega]
    exact h2
theorem for_inv {t : T} {it : E} {b : S} {xs : List W} (hi : evI P call it env s = .ok (.row xs) s') (Inv : Nat → Env → ST → Prop) (h0 : Inv 0 env s')
    (hs : ∀ j x env s, xs[j]? = some x → Inv j env s → ∃ env1 env' s', asg t x env = some env1 ∧ evS P call b env1 s = .ok .nx env' s' ∧ Inv (j + 1) env' s') : ∃ env' s2, evS P call (.forr t it b) env s = .ok .nx env' s2 ∧ Inv xs.length env' s2 := by
  obtain ⟨env2, s2, e1, h1⟩ := forS_inv (b := stepH P call t b) Inv (xs := xs) (i := 0) h0 (fun j x env s hj hi => by
    rw [Nat.zero_add] at hi ⊢
    obtain ⟨env1, env', s', a1, a2, a3⟩ := hs j x env s hj hi
    exact ⟨env', s', by simp [stepH, a1, a2], a3⟩)
  rw [Nat.zero_add] at h1
  refine ⟨env2, s2, ?_, h1⟩
  rw [evS_for]
  simp only [eS, hi, forA, e1]
end
end G
namespace G
section
variable {P : Pg} {call : Nat → List W → M W} {env : Env} {s : ST}
@[simp] theorem xE_var {i : Nat} : evE P call (.var i) env = (opt (match env[i]? with | some (some w) => some w | _ => none)) := by rw [evE] <;> rfl
@[simp] theorem xE_k {w : W} : evE P call (.k w) env = (ret w) := by rw [evE] <;> rfl
@[simp] theorem xE_glob {n : Nat} : evE P call (.glob n) env = (opt P.consts[n]?) := by rw [evE] <;> rfl
@[simp] theorem xE_fnv {n : Nat} : evE P call (.fnv n) env = (ret (.fn n)) := by rw [evE] <;> rfl
@[simp] theorem xE_bin {op : Bop} {a : E} {b : E} : evE P call (.bin op a b) env = (bnd (evE P call a env) fun x => bnd (evE P call b env) fun y => rd (binop op x y)) := by rw [evE] <;> rfl
@[simp] theorem xE_neg {a : E} : evE P call (.neg a) env = (bnd (evE P call a env) fun x => match x with | .int i => ret (.int (-i)) | _ => fail) := by rw [evE] <;> rfl
@[simp] theorem xE_cmp {op : Cop} {a : E} {b : E} : evE P call (.cmp op a b) env = (bnd (evE P call a env) fun x => bnd (evE P call b env) fun y => bnd (rd (cmpop op x y)) fun r => ret (.bl r)) := by rw [evE] <;> rfl
@[simp] theorem xE_chain {op : Cop} {op' : Cop} {a : E} {b : E} {c : E} : evE P call (.chain op op' a b c) env = (bnd (evE P call a env) fun x => bnd (evE P call b env) fun y => bnd (rd (cmpop op x y)) fun r =>
      if r then bnd (evE P call c env) fun z => bnd (rd (cmpop op' y z)) fun r' => ret (.bl r') else ret (.bl false)) := by rw [evE] <;> rfl
@[simp] theorem xE_and {a : E} {b : E} : evE P call (.and a b) env = (bnd (evE P call a env) fun x => match x with | .bl true => evE P call b env | .bl false => ret (.bl false) | _ => fail) := by rw [evE] <;> rfl
@[simp] theorem xE_or {a : E} {b : E} : evE P call (.or a b) env = (bnd (evE P call a env) fun x => match x with | .bl true => ret (.bl true) | .bl false => evE P call b env | _ => fail) := by rw [evE] <;> rfl
@[simp] theorem xE_not {a : E} : evE P call (.not a) env = (bnd (evE P call a env) fun x => match x with | .bl r => ret (.bl (!r)) | _ => fail) := by rw [evE] <;> rfl
@[simp] theorem xE_ife {c : E} {a : E} {b : E} : evE P call (.ife c a b) env = (bnd (evE P call c env) fun x => match x with | .bl true => evE P call a env | .bl false => evE P call b env | _ => fail) := by rw [evE] <;> rfl
@[simp] theorem xE_tup {l : E} : evE P call (.tup l) env = (bnd (fits (evA P call l env)) fun xs => ret (.tup xs)) := by rw [evE] <;> rfl
@[simp] theorem xE_lst {l : E} : evE P call (.lst l) env = (bnd (fits (evA P call l env)) fun xs => ret (.lst xs)) := by rw [evE] <;> rfl
@[simp] theorem xE_mlst {l : E} : evE P call (.mlst l) env = (bnd (fits (evA P call l env)) fun xs => fun s => .ok (.ref s.length) (s ++ [xs])) := by rw [evE] <;> rfl
@[simp] theorem xE_ix {a : E} {b : E} : evE P call (.ix a b) env = (bnd (evE P call a env) fun x => bnd (evE P call b env) fun y => rd (item x y)) := by rw [evE] <;> rfl
@[simp] theorem xE_sl {a : E} {lo : E} {hi : E} : evE P call (.sl a lo hi) env = (bnd (evE P call a env) fun x => bnd (evO P call lo env) fun l => bnd (evO P call hi env) fun h => rd (slice x l h)) := by rw [evE] <;> rfl
@[simp] theorem xE_slx {a : E} {lo : E} {hi : E} {st : Int} : evE P call (.slx a lo hi st) env = (fail) := by rw [evE] <;> rfl
@[simp] theorem xE_no  : evE P call (.no) env = (ret .non) := by rw [evE] <;> rfl
@[simp] theorem xE_rev {a : E} : evE P call (.rev a) env = (bnd (evE P call a env) fun x => bnd (rd fun s => seqL s x) fun xs => ret (.lst xs.reverse)) := by rw [evE] <;> rfl
@[simp] theorem xE_call {n : Nat} {l : E} : evE P call (.call n l) env = (bnd (evA P call l env) fun xs => call n xs) := by rw [evE] <;> rfl
@[simp] theorem xE_bi_mlist {l : E} : evE P call (.bi .mlist l) env = (bnd (evA P call l env) fun xs => bnd (rd (biop .list xs)) fun w => match w with
      | .lst ys => fun s => .ok (.ref s.length) (s ++ [ys])
      | _ => fail) := by rw [evE] <;> rfl
@[simp] theorem x_bi_len {l : E} : evE P call (.bi .len l) env = (bnd (evA P call l env) fun xs => rd (biop .len xs)) := by rw [evE] <;> first | rfl | (intro h; cases h)
@[simp] theorem x_bi_abs {l : E} : evE P call (.bi .abs l) env = (bnd (evA P call l env) fun xs => rd (biop .abs xs)) := by rw [evE] <;> first | rfl | (intro h; cases h)
@[simp] theorem x_bi_int {l : E} : evE P call (.bi .int l) env = (bnd (evA P call l env) fun xs => rd (biop .int xs)) := by rw [evE] <;> first | rfl | (intro h; cases h)
@[simp] theorem x_bi_str {l : E} : evE P call (.bi .str l) env = (bnd (evA P call l env) fun xs => rd (biop .str xs)) := by rw [evE] <;> first | rfl | (intro h; cases h)
@[simp] theorem x_bi_list {l : E} : evE P call (.bi .list l) env = (bnd (evA P call l env) fun xs => rd (biop .list xs)) := by rw [evE] <;> first | rfl | (intro h; cases h)
@[simp] theorem x_bi_tuple {l : E} : evE P call (.bi .tuple l) env = (bnd (evA P call l env) fun xs => rd (biop .tuple xs)) := by rw [evE] <;> first | rfl | (intro h; cases h)
@[simp] theorem x_bi_dict {l : E} : evE P call (.bi .dict l) env = (bnd (evA P call l env) fun xs => rd (biop .dict xs)) := by rw [evE] <;> first | rfl | (intro h; cases h)
@[simp] theorem x_bi_max {l : E} : evE P call (.bi .max l) env = (bnd (evA P call l env) fun xs => rd (biop .max xs)) := by rw [evE] <;> first | rfl | (intro h; cases h)
@[simp] theorem x_bi_min {l : E} : evE P call (.bi .min l) env = (bnd (evA P call l env) fun xs => rd (biop .min xs)) := by rw [evE] <;> first | rfl | (intro h; cases h)
@[simp] theorem x_bi_sum {l : E} : evE P call (.bi .sum l) env = (bnd (evA P call l env) fun xs => rd (biop .sum xs)) := by rw [evE] <;> first | rfl | (intro h; cases h)
@[simp] theorem x_bi_all {l : E} : evE P call (.bi .all l) env = (bnd (evA P call l env) fun xs => rd (biop .all xs)) := by rw [evE] <;> first | rfl | (intro h; cases h)
@[simp] theorem x_bi_any {l : E} : evE P call (.bi .any l) env = (bnd (evA P call l env) fun xs => rd (biop .any xs)) := by rw [evE] <;> first | rfl | (intro h; cases h)
@[simp] theorem x_bi_sorted {l : E} : evE P call (.bi .sorted l) env = (bnd (evA P call l env) fun xs => rd (biop .sorted xs)) := by rw [evE] <;> first | rfl | (intro h; cases h)
@[simp] theorem x_bi_isi {l : E} : evE P call (.bi .isi l) env = (bnd (evA P call l env) fun xs => rd (biop .isi xs)) := by rw [evE] <;> first | rfl | (intro h; cases h)
@[simp] theorem x_bi_lenset {l : E} : evE P call (.bi .lenset l) env = (bnd (evA P call l env) fun xs => rd (biop .lenset xs)) := by rw [evE] <;> first | rfl | (intro h; cases h)
@[simp] theorem xE_meth {m : Me} {o : E} {l : E} : evE P call (.meth m o l) env = (bnd (evE P call o env) fun x => match m.isL, x with
      | true, .ref n => bnd (evA P call l env) fun xs => meL m n xs
      | false, .str a => bnd (evA P call l env) fun xs => meS m a xs
      | _, _ => fail) := by rw [evE] <;> rfl
@[simp] theorem xE_lzip {a : E} {b : E} : evE P call (.lzip a b) env = (bnd (evE P call a env) fun x => bnd (evE P call b env) fun y => match x, y with
      | .tup xs, .tup ys => ret (.lst (zipW xs ys))
      | _, _ => fail) := by rw [evE] <;> rfl
@[simp] theorem xE_lrng {l : E} : evE P call (.lrng l) env = (bnd (evA P call l env) fun xs => bnd (opt (rngOf xs)) fun ys => ret (.lst ys)) := by rw [evE] <;> rfl
@[simp] theorem xE_clo {n : Nat} {l : E} : evE P call (.clo n l) env = (tellM P n (bnd (call P.defs.length []) fun _ => evE P (fun m xs => call (m + (P.defs.length + 1)) xs) l env)) := by rw [evE] <;> rfl
@[simp] theorem xA_nil  : evA P call (.nil) env = (ret []) := by rw [evA] <;> rfl
@[simp] theorem xA_cons {a : E} {b : E} : evA P call (.cons a b) env = (bnd (evE P call a env) fun x => bnd (evA P call b env) fun xs => ret (x :: xs)) := by rw [evA] <;> rfl
@[simp] theorem xO_no  : evO P call (.no) env = (ret none) := by rw [evO] <;> rfl
@[simp] theorem xO_itr {a : E} : evO P call (.itr a) env = (bnd (evE P call a env) fun x => match x with | .int i => ret (some i) | _ => fail) := by rw [evO] <;> rfl
@[simp] theorem xB_nil  : evB P call (.nil) env = (ret true) := by rw [evB] <;> rfl
@[simp] theorem xB_cons {a : E} {b : E} : evB P call (.cons a b) env = (bnd (evE P call a env) fun x => match x with | .bl true => evB P call b env | .bl false => ret false | _ => fail) := by rw [evB] <;> rfl
@[simp] theorem xI_rng {l : E} : evI P call (.rng l) env = (bnd (evA P call l env) fun xs => bnd (opt (rngOf xs)) fun ys => ret (.row ys)) := by rw [evI] <;> rfl
@[simp] theorem xI_enum {a : E} : evI P call (.enum a) env = (bnd (evE P call a env) fun x => opt (srcEnum x)) := by rw [evI] <;> rfl
@[simp] theorem xI_zip {a : E} {b : E} : evI P call (.zip a b) env = (bnd (evE P call a env) fun x => bnd (evE P call b env) fun y => rd fun s => srcZip s x y) := by rw [evI] <;> rfl
@[simp] theorem xI_itr {a : E} : evI P call (.itr a) env = (bnd (evE P call a env) fun x => opt (srcOf x)) := by rw [evI] <;> rfl
end
end G
namespace G
section
variable {P : Pg} {call : Nat → List W → M W} {env : Env} {s : ST}
@[simp] theorem xS_nil  : evS P call (.nil) env s = (.ok .nx env s) := by rw [evS] <;> rfl
@[simp] theorem xS_seq {a : S} {b : S} : evS P call (.seq a b) env s = (match evS P call a env s with
    | .ok .nx env' s' => evS P call b env' s'
    | r => r) := by rw [evS] <;> rfl
@[simp] theorem xS_asg {t : T} {e : E} : evS P call (.asg t e) env s = (eS (evE P call e env) env (fun w s' => match asg t w env with
    | some env' => .ok .nx env' s'
    | none => .err) s) := by rw [evS] <;> rfl
@[simp] theorem xS_par2 {i : Nat} {j : Nat} {a : E} {b : E} : evS P call (.par2 i j a b) env s = (eS (evE P call a env) env (fun x s' => eS (evE P call b env) env (fun y s'' =>
      if i < env.length ∧ j < env.length ∧ i ≠ j then .ok .nx ((env.set i (some x)).set j (some y)) s'' else .err) s') s) := by rw [evS] <;> rfl
@[simp] theorem xS_par3 {i : Nat} {j : Nat} {l : Nat} {a : E} {b : E} {c : E} : evS P call (.par3 i j l a b c) env s = (eS (evE P call a env) env (fun x s' => eS (evE P call b env) env (fun y s'' => eS (evE P call c env) env (fun z s3 =>
      if i < env.length ∧ j < env.length ∧ l < env.length ∧ i ≠ j ∧ i ≠ l ∧ j ≠ l then .ok .nx (((env.set i (some x)).set j (some y)).set l (some z)) s3 else .err) s'') s') s) := by rw [evS] <;> rfl
@[simp] theorem xS_seti {o : E} {i : E} {e : E} : evS P call (.seti o i e) env s = (eS (evE P call e env) env (fun w s1 => eS (evE P call o env) env (fun x s2 => eS (evE P call i env) env (fun y s3 =>
      match x, y with
      | .ref n, .int k => match s3[n]? with
        | some ys => match ixOf k ys.length with
          | some j => .ok .nx env (s3.set n (ys.set j w))
          | none => .err
        | none => .err
      | _, _ => .err) s2) s1) s) := by rw [evS] <;> rfl
@[simp] theorem xS_expr {e : E} : evS P call (.expr e) env s = (eS (evE P call e env) env (fun _ s' => .ok .nx env s') s) := by rw [evS] <;> rfl
@[simp] theorem xS_rt {e : E} : evS P call (.rt e) env s = (eS (evE P call e env) env (fun w s' => .ok (.rt w) env s') s) := by rw [evS] <;> rfl
@[simp] theorem xS_rtn  : evS P call (.rtn) env s = (.ok (.rt .non) env s) := by rw [evS] <;> rfl
@[simp] theorem xS_ife {c : E} {a : S} {b : S} : evS P call (.ife c a b) env s = (eS (evE P call c env) env (fun x s' => match x with
    | .bl true => evS P call a env s'
    | .bl false => evS P call b env s'
    | _ => .err) s) := by rw [evS] <;> rfl
@[simp] theorem xS_brk  : evS P call (.brk) env s = (.ok .bk env s) := by rw [evS] <;> rfl
@[simp] theorem xS_cnt  : evS P call (.cnt) env s = (.ok .ct env s) := by rw [evS] <;> rfl
@[simp] theorem xS_pass  : evS P call (.pass) env s = (.ok .nx env s) := by rw [evS] <;> rfl
@[simp] theorem xS_raise {c : Nat} {l : E} : evS P call (.raise c l) env s = (eS (evA P call l env) env (fun xs s' => .exc c xs env s') s) := by rw [evS] <;> rfl
end
end G
namespace G
section
variable {P : Pg} {call : Nat → List W → M W} {env : Env} {s s' : ST} {α : Type}
theorem filterMap_if {l : List α} {f : α → W} {p : α → Bool} {h : α → W} (g : W → Option W) (hg : ∀ c ∈ l, g (f c) = if p c then some (h c) else none) : (l.map f).filterMap g = (l.filter p).map h := by
  induction l with
  | nil => rfl
  | cons c l ih =>
    have ih := ih fun c hc => hg c (List.mem_cons_of_mem _ hc)
    have h1 := hg c List.mem_cons_self
    cases hp : p c with
    | true => rw [hp] at h1; simp [h1, hp, ih]
    | false => rw [hp] at h1; simp [h1, hp, ih]
open Classical in
theorem lc_filtL {t : T} {it ifs e : E} {own : List Nat} {l : List α} {f h : α → W} {p : α → Bool} (hi : evI P call it env s = .ok (.row (l.map f)) s') (hinj : ∀ a b, f a = f b → a = b)
    (hg : ∀ c ∈ l, ∃ env', asg t (f c) (wipes env own) = some env' ∧ evB P call ifs env' s' = .ok (p c) s' ∧ (p c = true → evE P call e env' s' = .ok (h c) s')) (hl : l.length ≤ line) : evE P call (.lc t it ifs e own) env s = .ok (.lst ((l.filter p).map h)) s' := by
  have hgs : ∀ c ∈ l, (fun w => if hx : ∃ c, f c = w then (if p hx.choose then some (h hx.choose) else none) else none : W → Option W) (f c) = if p c then some (h c) else none := fun c _ => by
    have hx : ∃ c', f c' = f c := ⟨c, rfl⟩
    have : hx.choose = c := hinj _ _ hx.choose_spec
    simp only [hx, dif_pos, this]
  have key := lc_row (t := t) (ifs := ifs) (e := e) (own := own) hi (fun w => if hx : ∃ c, f c = w then (if p hx.choose then some (h hx.choose) else none) else none) (fun x hx => by
    obtain ⟨c, hc, rfl⟩ := List.mem_map.mp hx
    obtain ⟨env', a1, a2, a3⟩ := hg c hc
    refine ⟨env', a1, ?_⟩
    have e := hgs c hc
    cases hp : p c with
    | true => rw [hp] at e a2; exact .inr ⟨h c, by simpa using e, a2, a3 hp⟩
    | false => rw [hp] at e a2; exact .inl ⟨by simpa using e, a2⟩) (by rw [List.length_map]; exact hl)
  rw [key]
  rw [filterMap_if _ hgs]
theorem lc_mapL {t : T} {it e : E} {own : List Nat} {l : List α} {f h : α → W} (hi : evI P call it env s = .ok (.row (l.map f)) s') (hinj : ∀ a b, f a = f b → a = b)
    (hg : ∀ c ∈ l, ∃ env', asg t (f c) (wipes env own) = some env' ∧ evE P call e env' s' = .ok (h c) s') (hl : l.length ≤ line) : evE P call (.lc t it .nil e own) env s = .ok (.lst (l.map h)) s' := by
  have := lc_filtL (t := t) (ifs := .nil) (e := e) (own := own) (h := h) (p := fun _ => true) hi hinj (fun c hc => by
    obtain ⟨env', a1, a2⟩ := hg c hc
    exact ⟨env', a1, by simp [ret], fun _ => a2⟩) hl
  rw [this, List.filter_eq_self.mpr (fun _ _ => rfl)]
theorem boolsW_map {l : List α} {q : α → Bool} : boolsW (l.map fun c => .bl (q c)) = some (l.map q) := by
  induction l with
  | nil => rfl
  | cons c l ih => simp [boolsW, ih]
theorem str1_inj : ∀ a b : Nat, (W.str [a]) = (W.str [b]) → a = b := fun a b h => by
  injection h with h; injection h
end
end G

set_option Elab.async false
set_option linter.all false
set_option maxRecDepth 100000
set_option maxHeartbeats 4000000
namespace K00
open G
abbrev cup (a b : Int) (t : G.ST) : G.ST := [.int a, .int b] :: t
theorem roll (d : Nat) (m a b : Int) (t : G.ST) (hm : 0 < m) (hmb : m < 18446744073709551616) :
    ∃ r a' b', 0 ≤ r ∧ r < m ∧ callD pk.pg (d + 1) 16 [.ref 0, .int m] (cup a b t) = .ok (.int r) (cup a' b' t) := by
  by_cases ha : 0 < a
  · refine ⟨a % m, a / m, b, Int.emod_nonneg _ (by omega), Int.emod_lt_of_pos _ hm, ?_⟩
    rw [call_eq (df := ⟨2, 4, b__law_roll⟩) rfl rfl]
    simp [bnd, G.ret, rd, opt, eS, item, seqI, seqL, ixOf, cmpop, biop, bInt, bLen, bList, bAbs, binop, big, asg, fits, line, wEq_str, wEq_int, wEq_bl, bIsi, isTy, b__law_roll, eS, bnd, G.ret, rd, opt, item, seqI, ixOf, cmpop, ha, biop, bInt, binop, hm, hmb, big, asg]
  · obtain ⟨b1, hb1⟩ : ∃ b1, b1 = (b * 30671 + 7919) % 2147483549 := ⟨_, rfl⟩
    have hb2 : 0 ≤ b1 ∧ b1 < 2147483549 := by rw [hb1]; omega
    have c1 : -18446744073709551616 < b1 ∧ b1 < 18446744073709551616 := by omega
    refine ⟨(b1 * (b1 + 131)) % 2147483587 / 709 % m, a, b1, Int.emod_nonneg _ (by omega), Int.emod_lt_of_pos _ hm, ?_⟩
    rw [call_eq (df := ⟨2, 4, b__law_roll⟩) rfl rfl]
    simp [bnd, G.ret, rd, opt, eS, item, seqI, seqL, ixOf, cmpop, biop, bInt, bLen, bList, bAbs, binop, big, asg, fits, line, wEq_str, wEq_int, wEq_bl, bIsi, isTy, b__law_roll, eS, bnd, G.ret, rd, opt, item, seqI, ixOf, cmpop, ha, biop, bInt, binop, hm, hmb, big, asg, ← hb1, c1]
theorem somL (d : Nat) (xs : List W) (a b : Int) (t : G.ST) (h0 : 0 < xs.length) (hl : xs.length < 1000) :
    ∃ (i : Nat) (x : W) (a' b' : Int), xs[i]? = some x ∧ callD pk.pg (d + 2) 17 [.ref 0, .lst xs] (cup a b t) = .ok x (cup a' b' t) := by
  obtain ⟨r, a', b', h1, h2, e⟩ := roll d xs.length a b t (by omega) (by omega)
  have hr : r.toNat < xs.length := by omega
  refine ⟨r.toNat, xs[r.toNat], a', b', List.getElem?_eq_getElem hr, ?_⟩
  rw [call_eq (df := ⟨2, 2, b__law_some⟩) rfl rfl]
  simp [bnd, G.ret, rd, opt, eS, item, seqI, seqL, ixOf, cmpop, biop, bInt, bLen, bList, bAbs, binop, big, asg, fits, line, wEq_str, wEq_int, wEq_bl, bIsi, isTy, b__law_some, eS, bnd, G.ret, rd, opt, item, seqI, ixOf, biop, bLen, e, h1, h2, hr]
theorem somS (d : Nat) (l : List Nat) (a b : Int) (t : G.ST) (h0 : 0 < l.length) (hl : l.length < 1000) :
    ∃ c a' b', c ∈ l ∧ callD pk.pg (d + 2) 17 [.ref 0, .str l] (cup a b t) = .ok (.str [c]) (cup a' b' t) := by
  obtain ⟨r, a', b', h1, h2, e⟩ := roll d l.length a b t (by omega) (by omega)
  have hr : r.toNat < l.length := by omega
  refine ⟨l[r.toNat], a', b', List.getElem_mem hr, ?_⟩
  rw [call_eq (df := ⟨2, 2, b__law_some⟩) rfl rfl]
  have hl2 : l.length ≤ 16777216 := by omega
  simp [bnd, G.ret, rd, opt, eS, item, seqI, seqL, ixOf, cmpop, biop, bInt, bLen, bList, bAbs, binop, big, asg, fits, line, wEq_str, wEq_int, wEq_bl, bIsi, isTy, b__law_some, eS, bnd, G.ret, rd, opt, item, seqI, ixOf, biop, bLen, e, h1, h2, hr, hl2]
theorem cup_ok (d : Nat) (ns : List Int) (hn : ns.length ≤ 63) : ∃ a b, callD pk.pg (d + 1) 15 [.scr ns] [] = .ok (.ref 0) (cup a b []) := by
  rw [call_eq (df := ⟨1, 2, b__law_cup⟩) rfl rfl]
  obtain ⟨n, r, e, hr⟩ : ∃ (n : Int) (r : List W), ns.map W.int ++ [.int 0] = .int n :: r ∧ r.length ≤ 63 := by
    cases ns with
    | nil => exact ⟨0, [], rfl, by simp [bnd, G.ret, rd, opt, eS, item, seqI, seqL, ixOf, cmpop, biop, bInt, bLen, bList, bAbs, binop, big, asg, fits, line, wEq_str, wEq_int, wEq_bl, bIsi, isTy]⟩
    | cons n ns => exact ⟨n, _, rfl, by simpa [bnd, G.ret, rd, opt, eS, item, seqI, seqL, ixOf, cmpop, biop, bInt, bLen, bList, bAbs, binop, big, asg, fits, line, wEq_str, wEq_int, wEq_bl, bIsi, isTy] using hn⟩
  have hl : ns.length + 1 ≤ 16777216 := by omega
  obtain ⟨c, hc⟩ : ∃ c : Int, c = if n < 0 then -n else n := ⟨_, rfl⟩
  by_cases h18 : 1000000000000000000 ≤ c
  · refine ⟨c / 11, (c * 193 + 1201) % 2077504273 + 89, ?_⟩
    simp [bnd, G.ret, rd, opt, eS, item, seqI, seqL, ixOf, cmpop, biop, bInt, bLen, bList, bAbs, binop, big, asg, fits, line, wEq_str, wEq_int, wEq_bl, bIsi, isTy, b__law_cup, eS, bnd, G.ret, rd, opt, item, seqI, seqL, ixOf, biop, bInt, bList, bAbs, binop, big, asg, cmpop, e, fits, line, hl, ← hc, h18]
  · refine ⟨0, (c * 193 + 1201) % 2077504273 + 89, ?_⟩
    simp [bnd, G.ret, rd, opt, eS, item, seqI, seqL, ixOf, cmpop, biop, bInt, bLen, bList, bAbs, binop, big, asg, fits, line, wEq_str, wEq_int, wEq_bl, bIsi, isTy, b__law_cup, eS, bnd, G.ret, rd, opt, item, seqI, seqL, ixOf, biop, bInt, bList, bAbs, binop, big, asg, cmpop, e, fits, line, hl, ← hc, h18]
def madeB (l S : List Nat) : Bool := !(l == []) && l.all (fun c => decide (c ∈ S))
theorem made_ok (d : Nat) (l S : List Nat) (s : G.ST) (hl : l.length ≤ 16777216) : callD pk.pg (d + 1) 1 [.str l, .str S] s = .ok (.bl (madeB l S)) s := by
  rw [call_eq (df := ⟨2, 3, b_is_made_of⟩) rfl rfl]
  have hc : evE pk.pg (callD pk.pg d) (.lc (.v 2) (.itr (.var 0)) .nil (.cmp .isin (.var 2) (.var 1)) [2]) [some (.str l), some (.str S), none] s = .ok (.lst (l.map fun c => .bl (decide (c ∈ S)))) s :=
    lc_mapL (f := fun c => .str [c]) (by simp [bnd, G.ret, rd, opt, eS, item, seqI, seqL, ixOf, cmpop, biop, bInt, bLen, bList, bAbs, binop, big, asg, fits, line, wEq_str, wEq_int, wEq_bl, bIsi, isTy, srcOf]) str1_inj (fun c _ => ⟨_, rfl, by simp [bnd, G.ret, rd, opt, eS, item, seqI, seqL, ixOf, cmpop, biop, bInt, bLen, bList, bAbs, binop, big, asg, fits, line, wEq_str, wEq_int, wEq_bl, bIsi, isTy, wipes, cmp_in1]⟩) hl
  by_cases h0 : l = []
  · subst h0; simp [bnd, G.ret, rd, opt, eS, item, seqI, seqL, ixOf, cmpop, biop, bInt, bLen, bList, bAbs, binop, big, asg, fits, line, wEq_str, wEq_int, wEq_bl, bIsi, isTy, b_is_made_of, madeB]
  · have h1 : (l == []) = false := by simpa [bnd, G.ret, rd, opt, eS, item, seqI, seqL, ixOf, cmpop, biop, bInt, bLen, bList, bAbs, binop, big, asg, fits, line, wEq_str, wEq_int, wEq_bl, bIsi, isTy] using h0
    simp [bnd, G.ret, rd, opt, eS, item, seqI, seqL, ixOf, cmpop, biop, bInt, bLen, bList, bAbs, binop, big, asg, fits, line, wEq_str, wEq_int, wEq_bl, bIsi, isTy, b_is_made_of, hc, bBools, boolsW_map, madeB, List.all_map, h1, h0, Function.comp_def]
def figs : List Nat := [48, 49, 50, 51, 52, 53, 54, 55, 56, 57]
def signs : List Nat := [97, 98, 99, 100, 101, 102, 103, 104, 105, 106, 107, 108, 109, 110, 111, 112, 113, 114, 115, 116, 117, 118, 119, 120, 121, 122, 48, 49, 50, 51, 52, 53, 54, 55, 56, 57, 45, 42, 43, 47, 60, 62, 61, 33, 63, 38, 58]
/-- behind a sign -/
def unsg : List Nat → List Nat
  | 43 :: r => r
  | 45 :: r => r
  | l => l
def figB (l : List Nat) : Bool := madeB (unsg l) figs
theorem fig_ok (d : Nat) (l : List Nat) (s : G.ST) (hl : l.length ≤ 16777216) : callD pk.pg (d + 2) 2 [.str l] s = .ok (.bl (figB l)) s := by
  rw [call_eq (df := ⟨1, 1, b_is_figures⟩) rfl rfl]
  have hm0 := made_ok d l figs s hl
  have hc : pk.pg.consts[5]? = some (.str figs) := rfl
  cases l with
  | nil => simp [bnd, G.ret, rd, opt, eS, item, seqI, seqL, ixOf, cmpop, biop, bInt, bLen, bList, bAbs, binop, big, asg, fits, line, wEq_str, wEq_int, wEq_bl, bIsi, isTy, b_is_figures, hc, slice, cut, cutIx, memOk, eqOk, weq, hm0, figB, unsg, isSc]
  | cons c l =>
    have hl' : l.length + 1 ≤ 16777216 := by simpa [bnd, G.ret, rd, opt, eS, item, seqI, seqL, ixOf, cmpop, biop, bInt, bLen, bList, bAbs, binop, big, asg, fits, line, wEq_str, wEq_int, wEq_bl, bIsi, isTy] using hl
    have hm1 := made_ok d l figs s (by omega)
    by_cases h1 : c = 43
    · subst h1
      simp [bnd, G.ret, rd, opt, eS, item, seqI, seqL, ixOf, cmpop, biop, bInt, bLen, bList, bAbs, binop, big, asg, fits, line, wEq_str, wEq_int, wEq_bl, bIsi, isTy, b_is_figures, hc, slice, cut, cutIx, memOk, eqOk, weq, hm1, figB, unsg, isSc, hl']
    · by_cases h2 : c = 45
      · subst h2
        simp [bnd, G.ret, rd, opt, eS, item, seqI, seqL, ixOf, cmpop, biop, bInt, bLen, bList, bAbs, binop, big, asg, fits, line, wEq_str, wEq_int, wEq_bl, bIsi, isTy, b_is_figures, hc, slice, cut, cutIx, memOk, eqOk, weq, hm1, figB, unsg, isSc, hl']
      · have e : unsg (c :: l) = c :: l := by
          unfold unsg; split <;> simp_all [bnd, G.ret, rd, opt, eS, item, seqI, seqL, ixOf, cmpop, biop, bInt, bLen, bList, bAbs, binop, big, asg, fits, line, wEq_str, wEq_int, wEq_bl, bIsi, isTy]
        have n1 : ¬ 43 = c := fun h => h1 h.symm
        have n2 : ¬ 45 = c := fun h => h2 h.symm
        have n3 : (43 == c) = false := by simpa [bnd, G.ret, rd, opt, eS, item, seqI, seqL, ixOf, cmpop, biop, bInt, bLen, bList, bAbs, binop, big, asg, fits, line, wEq_str, wEq_int, wEq_bl, bIsi, isTy] using n1
        have n4 : (45 == c) = false := by simpa [bnd, G.ret, rd, opt, eS, item, seqI, seqL, ixOf, cmpop, biop, bInt, bLen, bList, bAbs, binop, big, asg, fits, line, wEq_str, wEq_int, wEq_bl, bIsi, isTy] using n2
        simp [bnd, G.ret, rd, opt, eS, item, seqI, seqL, ixOf, cmpop, biop, bInt, bLen, bList, bAbs, binop, big, asg, fits, line, wEq_str, wEq_int, wEq_bl, bIsi, isTy, b_is_figures, hc, slice, cut, cutIx, memOk, eqOk, weq, hm0, figB, e, isSc, hl', h1, h2, n3, n4]
def nil3 : List Nat := [110, 105, 108]
def wordB (l : List Nat) : Bool := madeB l signs && (decide (l.length ≤ 20) && (!(l == nil3) && !figB l))
theorem word_ok (d : Nat) (l : List Nat) (s : G.ST) (hl : l.length ≤ 16777216) : callD pk.pg (d + 3) 3 [.str l] s = .ok (.bl (wordB l)) s := by
  rw [call_eq (df := ⟨1, 1, b_fits_word⟩) rfl rfl]
  have hc : pk.pg.consts[7]? = some (.str signs) := rfl
  have hc3 : pk.pg.consts[3]? = some (.int 20) := rfl
  have h1 := made_ok (d + 1) l signs s hl
  have h2 := fig_ok d l s hl
  cases e1 : madeB l signs with
  | false => rw [e1] at h1; simp [bnd, G.ret, rd, opt, eS, item, seqI, seqL, ixOf, cmpop, biop, bInt, bLen, bList, bAbs, binop, big, asg, fits, line, wEq_str, wEq_int, wEq_bl, bIsi, isTy, b_fits_word, hc, h1, wordB, e1]
  | true =>
    rw [e1] at h1
    by_cases e2 : l.length ≤ 20
    · have e2' : (l.length : Int) ≤ 20 := by omega
      cases e3 : (l == [110, 105, 108]) with
      | true => simp [bnd, G.ret, rd, opt, eS, item, seqI, seqL, ixOf, cmpop, biop, bInt, bLen, bList, bAbs, binop, big, asg, fits, line, wEq_str, wEq_int, wEq_bl, bIsi, isTy, b_fits_word, hc, hc3, h1, wordB, e1, e2, e2', e3, hl, nil3]
      | false => simp [bnd, G.ret, rd, opt, eS, item, seqI, seqL, ixOf, cmpop, biop, bInt, bLen, bList, bAbs, binop, big, asg, fits, line, wEq_str, wEq_int, wEq_bl, bIsi, isTy, b_fits_word, hc, hc3, h1, wordB, e1, e2, e2', e3, hl, h2, nil3]
    · have e2' : ¬ (l.length : Int) ≤ 20 := by omega
      simp [bnd, G.ret, rd, opt, eS, item, seqI, seqL, ixOf, cmpop, biop, bInt, bLen, bList, bAbs, binop, big, asg, fits, line, wEq_str, wEq_int, wEq_bl, bIsi, isTy, b_fits_word, hc, hc3, h1, wordB, e1, e2, e2', hl]
def notStr : W → Bool
  | .non | .bl _ | .int _ | .tup _ | .lst _ | .ref _ => true
  | _ => false
theorem word_no (d : Nat) (w : W) (s : G.ST) (h : notStr w = true) : callD pk.pg (d + 3) 3 [w] s = .ok (.bl false) s := by
  rw [call_eq (df := ⟨1, 1, b_fits_word⟩) rfl rfl]
  cases w <;> first | (simp [bnd, G.ret, rd, opt, eS, item, seqI, seqL, ixOf, cmpop, biop, bInt, bLen, bList, bAbs, binop, big, asg, fits, line, wEq_str, wEq_int, wEq_bl, bIsi, isTy, notStr] at h; done) | simp [bnd, G.ret, rd, opt, eS, item, seqI, seqL, ixOf, cmpop, biop, bInt, bLen, bList, bAbs, binop, big, asg, fits, line, wEq_str, wEq_int, wEq_bl, bIsi, isTy, b_fits_word]
def textB (l : List Nat) : Bool := (l.take 1 == [34]) && (decide (l.length ≤ 401) && (l.drop 1).all (fun c => c == 10 || (decide (32 ≤ c) && decide (c ≤ 126))))
theorem slt1 (a b : Nat) : slt [a] [b] = decide (a < b) := by
  simp only [slt]
  by_cases h : a < b
  · simp [bnd, G.ret, rd, opt, eS, item, seqI, seqL, ixOf, cmpop, biop, bInt, bLen, bList, bAbs, binop, big, asg, fits, line, wEq_str, wEq_int, wEq_bl, bIsi, isTy, h]
  · by_cases h2 : b < a <;> simp [bnd, G.ret, rd, opt, eS, item, seqI, seqL, ixOf, cmpop, biop, bInt, bLen, bList, bAbs, binop, big, asg, fits, line, wEq_str, wEq_int, wEq_bl, bIsi, isTy, h, h2]
theorem text_ok (d : Nat) (l : List Nat) (s : G.ST) (hl : l.length ≤ 16777216) : callD pk.pg (d + 1) 6 [.str l] s = .ok (.bl (textB l)) s := by
  rw [call_eq (df := ⟨1, 2, b_fits_text⟩) rfl rfl]
  have hc : pk.pg.consts[4]? = some (.int 400) := rfl
  have hcomp : evE pk.pg (callD pk.pg d) (.lc (.v 1) (.itr (.sl (.var 0) (.itr (.k (.int 1))) .no)) .nil (.or (.cmp .eq (.var 1) (.k (.str [10]))) (.chain .le .le (.k (.str [32])) (.var 1) (.k (.str [126])))) [1]) [some (.str l), none] s = .ok (.lst ((l.drop 1).map fun c => .bl (c == 10 || (decide (32 ≤ c) && decide (c ≤ 126))))) s := by
    refine lc_mapL (f := fun c => .str [c]) ?_ str1_inj (fun c _ => ⟨_, rfl, ?_⟩) (by simp [bnd, G.ret, rd, opt, eS, item, seqI, seqL, ixOf, cmpop, biop, bInt, bLen, bList, bAbs, binop, big, asg, fits, line, wEq_str, wEq_int, wEq_bl, bIsi, isTy]; omega)
    · cases l with
      | nil => simp [bnd, G.ret, rd, opt, eS, item, seqI, seqL, ixOf, cmpop, biop, bInt, bLen, bList, bAbs, binop, big, asg, fits, line, wEq_str, wEq_int, wEq_bl, bIsi, isTy, srcOf, slice, cut, cutIx]
      | cons c l =>
        have hl' : l.length + 1 ≤ 16777216 := by simpa [bnd, G.ret, rd, opt, eS, item, seqI, seqL, ixOf, cmpop, biop, bInt, bLen, bList, bAbs, binop, big, asg, fits, line, wEq_str, wEq_int, wEq_bl, bIsi, isTy] using hl
        have : min 1 (l.length + 1) = 1 := by omega
        simp [bnd, G.ret, rd, opt, eS, item, seqI, seqL, ixOf, cmpop, biop, bInt, bLen, bList, bAbs, binop, big, asg, fits, line, wEq_str, wEq_int, wEq_bl, bIsi, isTy, srcOf, slice, cut, cutIx, hl', this]
    · by_cases h1 : c = 10
      · subst h1; simp [bnd, G.ret, rd, opt, eS, item, seqI, seqL, ixOf, cmpop, biop, bInt, bLen, bList, bAbs, binop, big, asg, fits, line, wEq_str, wEq_int, wEq_bl, bIsi, isTy, wipes]
      · have h1' : (c == 10) = false := by simpa [bnd, G.ret, rd, opt, eS, item, seqI, seqL, ixOf, cmpop, biop, bInt, bLen, bList, bAbs, binop, big, asg, fits, line, wEq_str, wEq_int, wEq_bl, bIsi, isTy] using h1
        by_cases h2 : 32 ≤ c
        · have h3 : ¬ c < 32 := by omega
          by_cases h4 : c ≤ 126
          · have h5 : ¬ 126 < c := by omega
            simp [bnd, G.ret, rd, opt, eS, item, seqI, seqL, ixOf, cmpop, biop, bInt, bLen, bList, bAbs, binop, big, asg, fits, line, wEq_str, wEq_int, wEq_bl, bIsi, isTy, wipes, h1, h1', slt1, h2, h3, h4, h5]
          · have h5 : 126 < c := by omega
            simp [bnd, G.ret, rd, opt, eS, item, seqI, seqL, ixOf, cmpop, biop, bInt, bLen, bList, bAbs, binop, big, asg, fits, line, wEq_str, wEq_int, wEq_bl, bIsi, isTy, wipes, h1, h1', slt1, h2, h3, h4, h5]
        · have h3 : c < 32 := by omega
          simp [bnd, G.ret, rd, opt, eS, item, seqI, seqL, ixOf, cmpop, biop, bInt, bLen, bList, bAbs, binop, big, asg, fits, line, wEq_str, wEq_int, wEq_bl, bIsi, isTy, wipes, h1, h1', slt1, h2, h3]
  cases l with
  | nil => simp [bnd, G.ret, rd, opt, eS, item, seqI, seqL, ixOf, cmpop, biop, bInt, bLen, bList, bAbs, binop, big, asg, fits, line, wEq_str, wEq_int, wEq_bl, bIsi, isTy, b_fits_text, textB, slice, cut, cutIx]
  | cons c l =>
    have hl' : l.length + 1 ≤ 16777216 := by simpa [bnd, G.ret, rd, opt, eS, item, seqI, seqL, ixOf, cmpop, biop, bInt, bLen, bList, bAbs, binop, big, asg, fits, line, wEq_str, wEq_int, wEq_bl, bIsi, isTy] using hl
    cases e1 : (c == 34) with
    | false => simp [bnd, G.ret, rd, opt, eS, item, seqI, seqL, ixOf, cmpop, biop, bInt, bLen, bList, bAbs, binop, big, asg, fits, line, wEq_str, wEq_int, wEq_bl, bIsi, isTy, b_fits_text, textB, slice, cut, cutIx, hl', e1]
    | true =>
      by_cases e2 : l.length + 1 ≤ 401
      · have e3 : ¬ (401 : Int) < (l.length : Int) + 1 := by omega
        simp [bnd, G.ret, rd, opt, eS, item, seqI, seqL, ixOf, cmpop, biop, bInt, bLen, bList, bAbs, binop, big, asg, fits, line, wEq_str, wEq_int, wEq_bl, bIsi, isTy, b_fits_text, textB, slice, cut, cutIx, hl', e1, hc, e2, e3, hcomp, bBools, boolsW_map, Function.comp_def]
      · have e3 : (401 : Int) < (l.length : Int) + 1 := by omega
        simp [bnd, G.ret, rd, opt, eS, item, seqI, seqL, ixOf, cmpop, biop, bInt, bLen, bList, bAbs, binop, big, asg, fits, line, wEq_str, wEq_int, wEq_bl, bIsi, isTy, b_fits_text, textB, slice, cut, cutIx, hl', e1, hc, e2, e3]
theorem text_no (d : Nat) (w : W) (s : G.ST) (h : notStr w = true) : callD pk.pg (d + 1) 6 [w] s = .ok (.bl false) s := by
  rw [call_eq (df := ⟨1, 2, b_fits_text⟩) rfl rfl]
  cases w <;> first | (simp [bnd, G.ret, rd, opt, eS, item, seqI, seqL, ixOf, cmpop, biop, bInt, bLen, bList, bAbs, binop, big, asg, fits, line, wEq_str, wEq_int, wEq_bl, bIsi, isTy, notStr] at h; done) | simp [bnd, G.ret, rd, opt, eS, item, seqI, seqL, ixOf, cmpop, biop, bInt, bLen, bList, bAbs, binop, big, asg, fits, line, wEq_str, wEq_int, wEq_bl, bIsi, isTy, b_fits_text]
def wholeB (w : W) (lo hi : Int) : Bool := match w with
  | .int i => decide (lo ≤ i) && decide (i ≤ hi)
  | _ => false
def plain : W → Bool
  | .non | .bl _ | .int _ | .tup _ | .lst _ | .ref _ | .str _ => true
  | _ => false
theorem whole_ok (d : Nat) (w : W) (lo hi : Int) (s : G.ST) (h : plain w = true) : callD pk.pg (d + 1) 0 [w, .int lo, .int hi] s = .ok (.bl (wholeB w lo hi)) s := by
  rw [call_eq (df := ⟨3, 3, b_is_whole⟩) rfl rfl]
  cases w <;> first | (simp [bnd, G.ret, rd, opt, eS, item, seqI, seqL, ixOf, cmpop, biop, bInt, bLen, bList, bAbs, binop, big, asg, fits, line, wEq_str, wEq_int, wEq_bl, bIsi, isTy, plain] at h; done) | (simp [bnd, G.ret, rd, opt, eS, item, seqI, seqL, ixOf, cmpop, biop, bInt, bLen, bList, bAbs, binop, big, asg, fits, line, wEq_str, wEq_int, wEq_bl, bIsi, isTy, b_is_whole, wholeB]; done) | skip
  rename_i i
  by_cases h1 : lo ≤ i <;> simp [bnd, G.ret, rd, opt, eS, item, seqI, seqL, ixOf, cmpop, biop, bInt, bLen, bList, bAbs, binop, big, asg, fits, line, wEq_str, wEq_int, wEq_bl, bIsi, isTy, b_is_whole, wholeB, h1]
def atB : W → Bool
  | .int i => decide (-1000000000000 ≤ i) && decide (i ≤ 1000000000000)
  | .str l => wordB l || textB l
  | _ => false
def okLen : W → Bool
  | .str l => decide (l.length ≤ 16777216)
  | _ => true
theorem atom_no (d : Nat) (w : W) (s : G.ST) (h : notStr w = true) (hp : plain w = true) (hw : wholeB w (-1000000000000) 1000000000000 = false) : callD pk.pg (d + 4) 7 [w] s = .ok (.bl false) s := by
  rw [call_eq (df := ⟨1, 1, b_is_atom⟩) rfl rfl]
  have hc : pk.pg.consts[2]? = some (.int 1000000000000) := rfl
  have h1 := whole_ok (d + 2) w (-1000000000000) 1000000000000 s hp
  rw [hw] at h1
  have h2 := word_no d w s h
  have h3 := text_no (d + 2) w s h
  simp [bnd, G.ret, rd, opt, eS, item, seqI, seqL, ixOf, cmpop, biop, bInt, bLen, bList, bAbs, binop, big, asg, fits, line, wEq_str, wEq_int, wEq_bl, bIsi, isTy, b_is_atom, hc, h1, h2, h3]
theorem atom_ok (d : Nat) (w : W) (s : G.ST) (h : plain w = true) (hl : okLen w = true) : callD pk.pg (d + 4) 7 [w] s = .ok (.bl (atB w)) s := by
  rw [call_eq (df := ⟨1, 1, b_is_atom⟩) rfl rfl]
  have hc : pk.pg.consts[2]? = some (.int 1000000000000) := rfl
  have h1 := whole_ok (d + 2) w (-1000000000000) 1000000000000 s h
  cases w with
  | str l =>
    have hl : l.length ≤ 16777216 := by simpa [bnd, G.ret, rd, opt, eS, item, seqI, seqL, ixOf, cmpop, biop, bInt, bLen, bList, bAbs, binop, big, asg, fits, line, wEq_str, wEq_int, wEq_bl, bIsi, isTy, okLen] using hl
    have h2 := word_ok d l s hl
    have h3 := text_ok (d + 2) l s hl
    simp only [wholeB] at h1
    cases e : wordB l with
    | true => rw [e] at h2; simp [bnd, G.ret, rd, opt, eS, item, seqI, seqL, ixOf, cmpop, biop, bInt, bLen, bList, bAbs, binop, big, asg, fits, line, wEq_str, wEq_int, wEq_bl, bIsi, isTy, b_is_atom, hc, h1, h2, atB, e]
    | false => rw [e] at h2; simp [bnd, G.ret, rd, opt, eS, item, seqI, seqL, ixOf, cmpop, biop, bInt, bLen, bList, bAbs, binop, big, asg, fits, line, wEq_str, wEq_int, wEq_bl, bIsi, isTy, b_is_atom, hc, h1, h2, h3, atB, e]
  | int i =>
    have h2 := word_no d (.int i) s rfl
    have h3 := text_no (d + 2) (.int i) s rfl
    simp only [wholeB] at h1
    cases e : (decide (-1000000000000 ≤ i) && decide (i ≤ 1000000000000)) with
    | true => rw [e] at h1; simp [bnd, G.ret, rd, opt, eS, item, seqI, seqL, ixOf, cmpop, biop, bInt, bLen, bList, bAbs, binop, big, asg, fits, line, wEq_str, wEq_int, wEq_bl, bIsi, isTy, b_is_atom, hc, h1, atB]; simpa [bnd, G.ret, rd, opt, eS, item, seqI, seqL, ixOf, cmpop, biop, bInt, bLen, bList, bAbs, binop, big, asg, fits, line, wEq_str, wEq_int, wEq_bl, bIsi, isTy] using e
    | false => rw [e] at h1; simp only [atB, e]; simp [bnd, G.ret, rd, opt, eS, item, seqI, seqL, ixOf, cmpop, biop, bInt, bLen, bList, bAbs, binop, big, asg, fits, line, wEq_str, wEq_int, wEq_bl, bIsi, isTy, b_is_atom, hc, h1, h2, h3]
  | non => exact atom_no d .non s rfl rfl rfl
  | bl b => exact atom_no d (.bl b) s rfl rfl rfl
  | tup xs => exact atom_no d (.tup xs) s rfl rfl rfl
  | lst xs => exact atom_no d (.lst xs) s rfl rfl rfl
  | ref n => exact atom_no d (.ref n) s rfl rfl rfl
  | _ => simp [bnd, G.ret, rd, opt, eS, item, seqI, seqL, ixOf, cmpop, biop, bInt, bLen, bList, bAbs, binop, big, asg, fits, line, wEq_str, wEq_int, wEq_bl, bIsi, isTy, plain] at h
end K00

set_option Elab.async false
set_option linter.all false
set_option maxRecDepth 100000
set_option maxHeartbeats 4000000
namespace K00
open G
/-! measured -/
mutual
def szW : W → Nat
  | .tup xs => szs xs + 1
  | _ => 1
def szs : List W → Nat
  | [] => 0
  | x :: xs => szW x + szs xs
end
mutual
def dpW : W → Nat
  | .tup xs => dps xs + 1
  | _ => 1
def dps : List W → Nat
  | [] => 0
  | x :: xs => max (dpW x) (dps xs)
end
mutual
def gdW : W → Bool
  | .tup xs => gds xs
  | w => atB w
def gds : List W → Bool
  | [] => true
  | x :: xs => gdW x && gds xs
end
mutual
def plW : W → Bool
  | .tup xs => pls xs
  | w => plain w && okLen w
def pls : List W → Bool
  | [] => true
  | x :: xs => plW x && pls xs
end
theorem szW_pos (w : W) : 1 ≤ szW w := by cases w <;> simp [bnd, G.ret, rd, opt, eS, seqI, seqL, cmpop, biop, bInt, bLen, bList, bAbs, binop, big, asg, fits, line, wEq_str, wEq_int, wEq_bl, bIsi, szW]
theorem dpW_pos (w : W) : 1 ≤ dpW w := by cases w <;> simp [bnd, G.ret, rd, opt, eS, seqI, seqL, cmpop, biop, bInt, bLen, bList, bAbs, binop, big, asg, fits, line, wEq_str, wEq_int, wEq_bl, bIsi, dpW]
theorem szs_len : ∀ xs : List W, xs.length ≤ szs xs
  | [] => Nat.le_refl _
  | x :: xs => by
    have := szW_pos x
    have := szs_len xs
    simp only [szs, List.length_cons]; omega
abbrev Ln := List (W × Int)
def pr (p : W × Int) : W := .tup [p.1, .int p.2]
def szL : Ln → Nat
  | [] => 0
  | p :: r => szW p.1 + szL r
def mxL : Ln → Int
  | [] => 0
  | p :: r => max (p.2 + dpW p.1 - 1) (mxL r)
def okL (L : Ln) : Prop := ∀ p ∈ L, gdW p.1 = true ∧ p.2 + dpW p.1 - 1 ≤ 60
theorem szL_app (a b : Ln) : szL (a ++ b) = szL a + szL b := by
  induction a with
  | nil => simp [bnd, G.ret, rd, opt, eS, seqI, seqL, cmpop, biop, bInt, bLen, bList, bAbs, binop, big, asg, fits, line, wEq_str, wEq_int, wEq_bl, bIsi, szL]
  | cons p a ih => simp [bnd, G.ret, rd, opt, eS, seqI, seqL, cmpop, biop, bInt, bLen, bList, bAbs, binop, big, asg, fits, line, wEq_str, wEq_int, wEq_bl, bIsi, szL, ih]; omega
theorem mxL_nn (a : Ln) : 0 ≤ mxL a := by
  induction a with
  | nil => simp [bnd, G.ret, rd, opt, eS, seqI, seqL, cmpop, biop, bInt, bLen, bList, bAbs, binop, big, asg, fits, line, wEq_str, wEq_int, wEq_bl, bIsi, mxL]
  | cons p a ih => simp only [mxL]; omega
theorem mxL_app (a b : Ln) : mxL (a ++ b) = max (mxL a) (mxL b) := by
  have := mxL_nn b
  induction a with
  | nil => simp [bnd, G.ret, rd, opt, eS, seqI, seqL, cmpop, biop, bInt, bLen, bList, bAbs, binop, big, asg, fits, line, wEq_str, wEq_int, wEq_bl, bIsi, mxL]; omega
  | cons p a ih => simp only [List.cons_append, mxL, ih]; omega
def kids (xs : List W) (d : Int) : Ln := xs.map fun x => (x, d + 1)
theorem szL_kids (xs : List W) (d : Int) : szL (kids xs d) = szs xs := by
  induction xs with
  | nil => rfl
  | cons x xs ih => simp only [kids, List.map_cons, szL, szs] at ih ⊢; rw [ih]
theorem mxL_kids (xs : List W) (d : Int) (hd : 0 ≤ d) : max d (mxL (kids xs d)) = d + dps xs := by
  induction xs with
  | nil => simp [bnd, G.ret, rd, opt, eS, seqI, seqL, cmpop, biop, bInt, bLen, bList, bAbs, binop, big, asg, fits, line, wEq_str, wEq_int, wEq_bl, bIsi, kids, mxL, dps]; omega
  | cons x xs ih =>
    have := dpW_pos x
    simp only [kids, List.map_cons, mxL, dps] at ih ⊢
    omega
theorem okL_kids (xs : List W) (d : Int) (hd : d ≤ 60) : okL (kids xs d) ↔ (gds xs = true ∧ d + dps xs ≤ 60) := by
  induction xs with
  | nil => simp [bnd, G.ret, rd, opt, eS, seqI, seqL, cmpop, biop, bInt, bLen, bList, bAbs, binop, big, asg, fits, line, wEq_str, wEq_int, wEq_bl, bIsi, kids, okL, dps, gds]; omega
  | cons x xs ih =>
    have := dpW_pos x
    have e : okL (kids (x :: xs) d) ↔ ((gdW x = true ∧ d + 1 + dpW x - 1 ≤ 60) ∧ okL (kids xs d)) := by
      simp [bnd, G.ret, rd, opt, eS, seqI, seqL, cmpop, biop, bInt, bLen, bList, bAbs, binop, big, asg, fits, line, wEq_str, wEq_int, wEq_bl, bIsi, kids, okL]
    rw [e, ih]
    simp only [gds, dps, Bool.and_eq_true]
    constructor
    · rintro ⟨⟨h1, h2⟩, h3, h4⟩; exact ⟨⟨h1, h3⟩, by omega⟩
    · rintro ⟨⟨h1, h2⟩, h3⟩; exact ⟨⟨h1, by omega⟩, h2, by omega⟩
theorem okL_app (a b : Ln) : okL (a ++ b) ↔ okL a ∧ okL b := by
  simp only [okL, List.mem_append]
  exact ⟨fun h => ⟨fun p hp => h p (.inl hp), fun p hp => h p (.inr hp)⟩, fun h p hp => hp.elim (h.1 p) (h.2 p)⟩
theorem item_last (xs : List W) (x : W) (s : G.ST) : item (.lst (xs ++ [x])) (.int (-1)) s = some x := by
  have h1 : ixOf (-1) (xs ++ [x]).length = some xs.length := by
    simp only [ixOf, List.length_append, List.length_singleton]
    rw [if_neg (by omega), if_pos (by omega)]
    congr 1; omega
  simp only [item, seqI, Option.bind_some, h1]
  simp [bnd, G.ret, rd, opt, eS, seqI, seqL, cmpop, biop, bInt, bLen, bList, bAbs, binop, big, asg, fits, line, wEq_str, wEq_int, wEq_bl, bIsi]
theorem slice_init (xs : List W) (x : W) (s : G.ST) : slice (.lst (xs ++ [x])) none (some (-1)) s = some (.lst xs) := by
  have h1 : cutIx (xs ++ [x]).length (xs ++ [x]).length (some (-1)) = xs.length := by
    simp only [cutIx, List.length_append, List.length_singleton]
    rw [if_pos (by omega)]; omega
  have h2 : (-1 + ((xs.length : Int) + 1)).toNat = xs.length := by omega
  simp only [slice, seqL, Option.map_some, cut, h1, cutIx]
  simp [bnd, G.ret, rd, opt, eS, seqI, seqL, cmpop, biop, bInt, bLen, bList, bAbs, binop, big, asg, fits, line, wEq_str, wEq_int, wEq_bl, bIsi, h2]
theorem ne_nil (xs : List W) (x : W) (s : G.ST) : cmpop .ne (.lst (xs ++ [x])) (.lst []) s = some true := by
  have e1 : eqOk 64 (.lst (xs ++ [x])) (.lst []) = true := by
    rw [eqOk]; simp [bnd, G.ret, rd, opt, eS, seqI, seqL, cmpop, biop, bInt, bLen, bList, bAbs, binop, big, asg, fits, line, wEq_str, wEq_int, wEq_bl, bIsi]
  have e2 : weq (.lst (xs ++ [x])) (.lst []) = false := by
    cases xs <;> rfl
  simp [bnd, G.ret, rd, opt, eS, seqI, seqL, cmpop, biop, bInt, bLen, bList, bAbs, binop, big, asg, fits, line, wEq_str, wEq_int, wEq_bl, bIsi, cmpop, wEq, deref, e1, e2]
theorem ne_nil0 (s : G.ST) : cmpop .ne (.lst []) (.lst []) s = some false := rfl
/-- the loop of measured -/
def mCond : E := .cmp .ne (.var 1) (.lst .nil)
def mStep : G.S := match b_measured with
  | .seq _ (.seq (.whl _ b) _) => b
  | _ => .nil
theorem kids_lc (d : Nat) (v w : W) (xs : List W) (L : List W) (dd sz dp : Int) (x6 : Option W) (s : G.ST) (hl : xs.length ≤ 16777216) :
    evE pk.pg (callD pk.pg d) (.lc (.v 6) (.itr (.var 4)) .nil (.tup (.cons (.var 6) (.cons (.bin .add (.var 5) (.k (.int 1))) .nil))) [6]) [some v, some (.lst L), some (.int sz), some (.int dp), some (.tup xs), some (.int dd), x6] s = .ok (.lst ((kids xs dd).map pr)) s := by
  have h := lc_mapL (P := pk.pg) (call := callD pk.pg d) (env := [some v, some (.lst L), some (.int sz), some (.int dp), some (.tup xs), some (.int dd), x6]) (s := s) (s' := s) (t := .v 6) (it := .itr (.var 4)) (e := .tup (.cons (.var 6) (.cons (.bin .add (.var 5) (.k (.int 1))) .nil))) (own := [6]) (l := xs) (f := id) (h := fun x => .tup [x, .int (dd + 1)]) (by simp [bnd, G.ret, rd, opt, eS, seqI, seqL, cmpop, biop, bInt, bLen, bList, bAbs, binop, big, asg, fits, line, wEq_str, wEq_int, wEq_bl, bIsi, srcOf]) (fun a b h => h) (fun c _ => ⟨_, rfl, by simp [bnd, G.ret, rd, opt, eS, seqI, seqL, cmpop, biop, bInt, bLen, bList, bAbs, binop, big, asg, fits, line, wEq_str, wEq_int, wEq_bl, bIsi, wipes]⟩) hl
  rw [h]
  simp [bnd, G.ret, rd, opt, eS, seqI, seqL, cmpop, biop, bInt, bLen, bList, bAbs, binop, big, asg, fits, line, wEq_str, wEq_int, wEq_bl, bIsi, kids, pr, Function.comp_def]
theorem plain_of {w : W} (h : plW w = true) : plain w = true ∧ okLen w = true := by
  cases w <;> simp_all [bnd, G.ret, rd, opt, eS, seqI, seqL, cmpop, biop, bInt, bLen, bList, bAbs, binop, big, asg, fits, line, wEq_str, wEq_int, wEq_bl, bIsi, plW, plain, okLen]
theorem isi_tup (w : W) (h : plain w = true) : biop .isi [w, .ty "tuple"] [] = some (.bl (match w with | .tup _ => true | _ => false)) := by
  cases w <;> first | rfl | simp [bnd, G.ret, rd, opt, eS, seqI, seqL, cmpop, biop, bInt, bLen, bList, bAbs, binop, big, asg, fits, line, wEq_str, wEq_int, wEq_bl, bIsi, plain] at h
section
variable (d : Nat) (v : W) (L : List W) (w : W) (dd sz dp : Int) (x4 x5 x6 : Option W) (s : G.ST)
theorem hc0 : pk.pg.consts[0]? = some (.int 1000) := rfl
theorem hc1 : pk.pg.consts[1]? = some (.int 60) := rfl
theorem hmx (dp dd : Int) : (if dp < dd then dd else dp) = max dp dd := by omega
abbrev mRun : G.RS := evS pk.pg (callD pk.pg (d + 4)) mStep [some v, some (.lst (L ++ [.tup [w, .int dd]])), some (.int sz), some (.int dp), x4, x5, x6] s
theorem t_size (h1 : 1000 < sz + 1) : ∃ env', mRun d v L w dd sz dp x4 x5 x6 s = .ok (.rt .non) env' s := by
  refine ⟨[some v, some (.lst L), some (.int (sz + 1)), some (.int (max dp dd)), some w, some (.int dd), x6], ?_⟩
  simp [bnd, G.ret, rd, opt, eS, seqI, seqL, cmpop, biop, bInt, bLen, bList, bAbs, binop, big, asg, fits, line, wEq_str, wEq_int, wEq_bl, bIsi, mRun, mStep, b_measured, item_last, slice_init, bTwo, hc0, hc1, h1, asgs, hmx]
theorem t_depth (h1 : ¬ 1000 < sz + 1) (h2 : 60 < dd) : ∃ env', mRun d v L w dd sz dp x4 x5 x6 s = .ok (.rt .non) env' s := by
  refine ⟨[some v, some (.lst L), some (.int (sz + 1)), some (.int (max dp dd)), some w, some (.int dd), x6], ?_⟩
  simp [bnd, G.ret, rd, opt, eS, seqI, seqL, cmpop, biop, bInt, bLen, bList, bAbs, binop, big, asg, fits, line, wEq_str, wEq_int, wEq_bl, bIsi, mRun, mStep, b_measured, item_last, slice_init, bTwo, hc0, hc1, h1, h2, asgs, hmx]
theorem t_bad (h1 : ¬ 1000 < sz + 1) (h2 : ¬ 60 < dd) (hT : isTy w "tuple" = some false) (ha : callD pk.pg (d + 4) 7 [w] s = .ok (.bl false) s) : ∃ env', mRun d v L w dd sz dp x4 x5 x6 s = .ok (.rt .non) env' s := by
  refine ⟨[some v, some (.lst L), some (.int (sz + 1)), some (.int (max dp dd)), some w, some (.int dd), x6], ?_⟩
  simp [bnd, G.ret, rd, opt, eS, seqI, seqL, cmpop, biop, bInt, bLen, bList, bAbs, binop, big, asg, fits, line, wEq_str, wEq_int, wEq_bl, bIsi, mRun, mStep, b_measured, item_last, slice_init, bTwo, hc0, hc1, h1, h2, asgs, hmx, hT, ha]
theorem t_atom (h1 : ¬ 1000 < sz + 1) (h2 : ¬ 60 < dd) (hT : isTy w "tuple" = some false) (ha : callD pk.pg (d + 4) 7 [w] s = .ok (.bl true) s) : ∃ x4' x5', mRun d v L w dd sz dp x4 x5 x6 s = .ok .nx [some v, some (.lst L), some (.int (sz + 1)), some (.int (max dp dd)), x4', x5', x6] s := by
  refine ⟨some w, some (.int dd), ?_⟩
  simp [bnd, G.ret, rd, opt, eS, seqI, seqL, cmpop, biop, bInt, bLen, bList, bAbs, binop, big, asg, fits, line, wEq_str, wEq_int, wEq_bl, bIsi, mRun, mStep, b_measured, item_last, slice_init, bTwo, hc0, hc1, h1, h2, asgs, hmx, hT, ha]
theorem t_wide (xs : List W) (h1 : ¬ 1000 < sz + 1) (h2 : ¬ 60 < dd) (h3 : 1000 < xs.length) : ∃ env', mRun d v L (.tup xs) dd sz dp x4 x5 x6 s = .ok (.rt .non) env' s := by
  refine ⟨[some v, some (.lst L), some (.int (sz + 1)), some (.int (max dp dd)), some (.tup xs), some (.int dd), x6], ?_⟩
  have h3' : (1000 : Int) < xs.length := by omega
  have hT : isTy (.tup xs) "tuple" = some true := rfl
  simp [bnd, G.ret, rd, opt, eS, seqI, seqL, cmpop, biop, bInt, bLen, bList, bAbs, binop, big, asg, fits, line, wEq_str, wEq_int, wEq_bl, bIsi, mRun, mStep, b_measured, item_last, slice_init, bTwo, hc0, hc1, h1, h2, asgs, hmx, hT, h3']
theorem t_tup (xs : List W) (h1 : ¬ 1000 < sz + 1) (h2 : ¬ 60 < dd) (h3 : ¬ 1000 < xs.length) (hL : L.length ≤ 1000000) : ∃ x4' x5', mRun d v L (.tup xs) dd sz dp x4 x5 x6 s = .ok .nx [some v, some (.lst (L ++ (kids xs dd).map pr)), some (.int (sz + 1)), some (.int (max dp dd)), x4', x5', x6] s := by
  refine ⟨some (.tup xs), some (.int dd), ?_⟩
  have h3' : ¬ (1000 : Int) < xs.length := by omega
  have hT : isTy (.tup xs) "tuple" = some true := rfl
  have hk := kids_lc (d + 4) v v xs L dd (sz + 1) (max dp dd) x6 s (by omega)
  have hlen : L.length + (kids xs dd).length ≤ 16777216 := by simp [bnd, G.ret, rd, opt, eS, seqI, seqL, cmpop, biop, bInt, bLen, bList, bAbs, binop, big, asg, fits, line, wEq_str, wEq_int, wEq_bl, bIsi, kids]; omega
  simp [bnd, G.ret, rd, opt, eS, seqI, seqL, cmpop, biop, bInt, bLen, bList, bAbs, binop, big, asg, fits, line, wEq_str, wEq_int, wEq_bl, bIsi, mRun, mStep, b_measured, item_last, slice_init, bTwo, hc0, hc1, h1, h2, asgs, hmx, hT, h3', hk, hlen]
end
theorem szL_len : ∀ L : Ln, L.length ≤ szL L
  | [] => Nat.le_refl _
  | p :: L => by
    have := szW_pos p.1
    have := szL_len L
    simp only [szL, List.length_cons]; omega
abbrev mLoop (d fuel : Nat) (env : Env) (s : G.ST) : G.RS := whileS (fun env => evE pk.pg (callD pk.pg (d + 4)) mCond env) (fun env s => evS pk.pg (callD pk.pg (d + 4)) mStep env s) fuel env s
theorem m_cond (d : Nat) (v : W) (L : Ln) (p : W × Int) (sz dp : Int) (x4 x5 x6 : Option W) (s : G.ST) : evE pk.pg (callD pk.pg (d + 4)) mCond [some v, some (.lst ((L ++ [p]).map pr)), some (.int sz), some (.int dp), x4, x5, x6] s = .ok (.bl true) s := by
  have := ne_nil (L.map pr) (pr p) s
  have e : (L ++ [p]).map pr = L.map pr ++ [pr p] := by simp [bnd, G.ret, rd, opt, eS, seqI, seqL, cmpop, biop, bInt, bLen, bList, bAbs, binop, big, asg, fits, line, wEq_str, wEq_int, wEq_bl, bIsi]
  rw [e]
  simp only [cmpop] at this
  simp [bnd, G.ret, rd, opt, eS, seqI, seqL, cmpop, biop, bInt, bLen, bList, bAbs, binop, big, asg, fits, line, wEq_str, wEq_int, wEq_bl, bIsi, mCond, this]
theorem m_cond0 (d : Nat) (v : W) (sz dp : Int) (x4 x5 x6 : Option W) (s : G.ST) : evE pk.pg (callD pk.pg (d + 4)) mCond [some v, some (.lst []), some (.int sz), some (.int dp), x4, x5, x6] s = .ok (.bl false) s := by
  have := ne_nil0 s
  simp only [cmpop] at this
  simp [bnd, G.ret, rd, opt, eS, seqI, seqL, cmpop, biop, bInt, bLen, bList, bAbs, binop, big, asg, fits, line, wEq_str, wEq_int, wEq_bl, bIsi, mCond, this]
theorem isT_of {w : W} (h : plain w = true) (hn : ∀ xs, w ≠ .tup xs) : isTy w "tuple" = some false := by
  cases w <;> first | rfl | (simp [bnd, G.ret, rd, opt, eS, seqI, seqL, cmpop, biop, bInt, bLen, bList, bAbs, binop, big, asg, fits, line, wEq_str, wEq_int, wEq_bl, bIsi, plain] at h; done) | exact (hn _ rfl).elim
theorem l_ret {d f : Nat} {v : W} {L : Ln} {w : W} {dd sz dp : Int} {x4 x5 x6 : Option W} {s : G.ST} (h : ∃ env', mRun d v (L.map pr) w dd sz dp x4 x5 x6 s = .ok (.rt .non) env' s) : ∃ env', mLoop d (f + 1) [some v, some (.lst ((L ++ [(w, dd)]).map pr)), some (.int sz), some (.int dp), x4, x5, x6] s = .ok (.rt .non) env' s := by
  obtain ⟨env', h⟩ := h
  have e : (L ++ [(w, dd)]).map pr = L.map pr ++ [.tup [w, .int dd]] := by simp [bnd, G.ret, rd, opt, eS, seqI, seqL, cmpop, biop, bInt, bLen, bList, bAbs, binop, big, asg, fits, line, wEq_str, wEq_int, wEq_bl, bIsi, pr]
  refine ⟨env', ?_⟩
  simp only [mLoop, whileS, eS, m_cond]
  rw [e]
  simp only [mRun] at h
  rw [h]
theorem l_next {d f : Nat} {v : W} {L : Ln} {w : W} {dd sz dp : Int} {x4 x5 x6 : Option W} {s : G.ST} {env' : Env} (h : mRun d v (L.map pr) w dd sz dp x4 x5 x6 s = .ok .nx env' s) : mLoop d (f + 1) [some v, some (.lst ((L ++ [(w, dd)]).map pr)), some (.int sz), some (.int dp), x4, x5, x6] s = mLoop d f env' s := by
  have e : (L ++ [(w, dd)]).map pr = L.map pr ++ [.tup [w, .int dd]] := by simp [bnd, G.ret, rd, opt, eS, seqI, seqL, cmpop, biop, bInt, bLen, bList, bAbs, binop, big, asg, fits, line, wEq_str, wEq_int, wEq_bl, bIsi, pr]
  simp only [mLoop, whileS, eS, m_cond]
  rw [e]
  simp only [mRun] at h
  rw [h]
theorem pls_mem : ∀ {xs : List W}, pls xs = true → ∀ x ∈ xs, plW x = true
  | [], _, _, h => nomatch h
  | y :: ys, h, x, hx => by
    simp only [pls, Bool.and_eq_true] at h
    rcases List.mem_cons.mp hx with e | e
    · rw [e]; exact h.1
    · exact pls_mem h.2 x e
theorem m_loop (d : Nat) (v : W) (s : G.ST) : ∀ (n : Nat) (L : Ln) (sz dp : Int) (x4 x5 x6 : Option W) (fuel : Nat), szL L ≤ n → n ≤ 500000 → n < fuel → (∀ p ∈ L, plW p.1 = true ∧ 1 ≤ p.2) → 0 ≤ dp → 0 ≤ sz → sz ≤ 1000 →
    (okL L ∧ sz + szL L ≤ 1000 → ∃ x4' x5', mLoop d fuel [some v, some (.lst (L.map pr)), some (.int sz), some (.int dp), x4, x5, x6] s = .ok .nx [some v, some (.lst []), some (.int (sz + szL L)), some (.int (max dp (mxL L))), x4', x5', x6] s) ∧
    (¬ (okL L ∧ sz + szL L ≤ 1000) → ∃ env', mLoop d fuel [some v, some (.lst (L.map pr)), some (.int sz), some (.int dp), x4, x5, x6] s = .ok (.rt .non) env' s) := by
  intro n
  have nil : ∀ (sz dp : Int) (x4 x5 x6 : Option W) (f : Nat), 0 ≤ dp → sz ≤ 1000 → (okL [] ∧ sz + szL [] ≤ 1000 → ∃ x4' x5', mLoop d (f + 1) [some v, some (.lst (([] : Ln).map pr)), some (.int sz), some (.int dp), x4, x5, x6] s = .ok .nx [some v, some (.lst []), some (.int (sz + szL [])), some (.int (max dp (mxL []))), x4', x5', x6] s) ∧
    (¬ (okL [] ∧ sz + szL [] ≤ 1000) → ∃ env', mLoop d (f + 1) [some v, some (.lst (([] : Ln).map pr)), some (.int sz), some (.int dp), x4, x5, x6] s = .ok (.rt .non) env' s) := fun sz dp x4 x5 x6 f hdp hsz => by
    have hdp' : max dp 0 = dp := by omega
    refine ⟨fun _ => ⟨x4, x5, ?_⟩, fun h => (h ⟨(by intro p hp; cases hp), (by simp [bnd, G.ret, rd, opt, eS, seqI, seqL, cmpop, biop, bInt, bLen, bList, bAbs, binop, big, asg, fits, line, wEq_str, wEq_int, wEq_bl, bIsi, szL]; omega)⟩).elim⟩
    simp [bnd, G.ret, rd, opt, eS, seqI, seqL, cmpop, biop, bInt, bLen, bList, bAbs, binop, big, asg, fits, line, wEq_str, wEq_int, wEq_bl, bIsi, mLoop, whileS, m_cond0, szL, mxL, hdp']
  induction n with
  | zero =>
    intro L sz dp x4 x5 x6 fuel hL hn hf hp hdp h0 hsz
    obtain rfl : L = [] := by
      have := szL_len L
      exact List.length_eq_zero_iff.mp (by omega)
    obtain ⟨f, rfl⟩ : ∃ f, fuel = f + 1 := ⟨fuel - 1, by omega⟩
    exact nil sz dp x4 x5 x6 f hdp hsz
  | succ n ih =>
    intro L sz dp x4 x5 x6 fuel hL hn hf hp hdp h0 hsz
    obtain ⟨f, rfl⟩ : ∃ f, fuel = f + 1 := ⟨fuel - 1, by omega⟩
    rcases List.eq_nil_or_concat L with rfl | ⟨L0, ⟨w, dd⟩, rfl⟩
    · exact nil sz dp x4 x5 x6 f hdp hsz
    rw [List.concat_eq_append] at *
    obtain ⟨hw, hdd⟩ := hp (w, dd) (by simp [bnd, G.ret, rd, opt, eS, seqI, seqL, cmpop, biop, bInt, bLen, bList, bAbs, binop, big, asg, fits, line, wEq_str, wEq_int, wEq_bl, bIsi])
    have hp0 : ∀ p ∈ L0, plW p.1 = true ∧ 1 ≤ p.2 := fun p hp' => hp p (by simp [bnd, G.ret, rd, opt, eS, seqI, seqL, cmpop, biop, bInt, bLen, bList, bAbs, binop, big, asg, fits, line, wEq_str, wEq_int, wEq_bl, bIsi, hp'])
    have hsL : szL (L0 ++ [(w, dd)]) = szL L0 + szW w := by rw [szL_app]; simp [bnd, G.ret, rd, opt, eS, seqI, seqL, cmpop, biop, bInt, bLen, bList, bAbs, binop, big, asg, fits, line, wEq_str, wEq_int, wEq_bl, bIsi, szL]
    have hmL : mxL (L0 ++ [(w, dd)]) = max (mxL L0) (dd + dpW w - 1) := by
      rw [mxL_app]; have := dpW_pos w; have := mxL_nn L0; simp only [mxL]; omega
    have hoL : okL (L0 ++ [(w, dd)]) ↔ okL L0 ∧ gdW w = true ∧ dd + dpW w - 1 ≤ 60 := by rw [okL_app]; simp [bnd, G.ret, rd, opt, eS, seqI, seqL, cmpop, biop, bInt, bLen, bList, bAbs, binop, big, asg, fits, line, wEq_str, wEq_int, wEq_bl, bIsi, okL]
    have hwp := szW_pos w
    have hdw := dpW_pos w
    have hl0 := szL_len L0
    have hdd' : 1 ≤ dd := hdd
    have hw' : plW w = true := hw
    obtain ⟨hpl, hlen⟩ := plain_of hw'
    rw [hsL, hmL, hoL]
    rw [hsL] at hL
    by_cases h1 : 1000 < sz + 1
    · refine ⟨fun h => by have := h.2; omega, fun _ => l_ret (t_size d v _ w dd sz dp x4 x5 x6 s h1)⟩
    by_cases h2 : 60 < dd
    · refine ⟨fun h => by have := h.1.2.2; omega, fun _ => l_ret (t_depth d v _ w dd sz dp x4 x5 x6 s h1 h2)⟩
    by_cases hT : ∃ xs, w = .tup xs
    · obtain ⟨xs, rfl⟩ := hT
      simp only [szW, dpW, gdW] at *
      by_cases h3 : 1000 < xs.length
      · have := szs_len xs
        refine ⟨fun h => by have := h.2; omega, fun _ => l_ret (t_wide d v _ dd sz dp x4 x5 x6 s xs h1 h2 h3)⟩
      · obtain ⟨y4, y5, hr⟩ := t_tup d v (L0.map pr) dd sz dp x4 x5 x6 s xs h1 h2 h3 (by rw [List.length_map]; omega)
        have e2 : L0.map pr ++ (kids xs dd).map pr = (L0 ++ kids xs dd).map pr := by simp [bnd, G.ret, rd, opt, eS, seqI, seqL, cmpop, biop, bInt, bLen, bList, bAbs, binop, big, asg, fits, line, wEq_str, wEq_int, wEq_bl, bIsi]
        rw [e2] at hr
        have hx : pls xs = true := by simpa [bnd, G.ret, rd, opt, eS, seqI, seqL, cmpop, biop, bInt, bLen, bList, bAbs, binop, big, asg, fits, line, wEq_str, wEq_int, wEq_bl, bIsi, plW] using hw'
        have hsk : szL (L0 ++ kids xs dd) = szL L0 + szs xs := by rw [szL_app, szL_kids]
        have hmk := mxL_kids xs dd (by omega)
        have hok : okL (L0 ++ kids xs dd) ↔ okL L0 ∧ gds xs = true ∧ dd + dps xs ≤ 60 := by rw [okL_app, okL_kids xs dd (by omega)]
        obtain ⟨i1, i2⟩ := ih (L0 ++ kids xs dd) (sz + 1) (max dp dd) y4 y5 x6 f (by omega) (by omega) (by omega) (fun p hp' => by
          rcases List.mem_append.mp hp' with h | h
          · exact hp0 p h
          · obtain ⟨x, hx', rfl⟩ := List.mem_map.mp h
            exact ⟨pls_mem hx x hx', by show 1 ≤ dd + 1; omega⟩) (by omega) (by omega) (by omega)
        rw [l_next hr]
        rw [hok, hsk, mxL_app] at i1
        rw [hok, hsk] at i2
        have e3 : max (max dp dd) (max (mxL L0) (mxL (kids xs dd))) = max dp (max (mxL L0) (dd + ((dps xs + 1 : Nat) : Int) - 1)) := by omega
        have e4 : sz + 1 + ((szL L0 + szs xs : Nat) : Int) = sz + ((szL L0 + (szs xs + 1) : Nat) : Int) := by omega
        refine ⟨fun h => ?_, fun h => i2 fun q => h ?_⟩
        · obtain ⟨z4, z5, q⟩ := i1 ⟨⟨h.1.1, h.1.2.1, by have := h.1.2.2; omega⟩, by have := h.2; omega⟩
          exact ⟨z4, z5, by rw [q, e3, e4]⟩
        · exact ⟨⟨q.1.1, q.1.2.1, by have := q.1.2.2; omega⟩, by have := q.2; omega⟩
    · have hn' : ∀ xs, w ≠ .tup xs := fun xs e => hT ⟨xs, e⟩
      have hiT := isT_of hpl hn'
      have hat := atom_ok d w s hpl hlen
      have hgd : gdW w = atB w := by cases w <;> first | rfl | exact (hn' _ rfl).elim
      have hs1 : szW w = 1 := by cases w <;> first | rfl | exact (hn' _ rfl).elim
      have hd1 : dpW w = 1 := by cases w <;> first | rfl | exact (hn' _ rfl).elim
      rw [hgd, hs1, hd1]
      cases ha : atB w with
      | false =>
        rw [ha] at hat
        exact ⟨fun h => (Bool.false_ne_true h.1.2.1).elim, fun _ => l_ret (t_bad d v _ w dd sz dp x4 x5 x6 s h1 h2 hiT hat)⟩
      | true =>
        rw [ha] at hat
        obtain ⟨y4, y5, hr⟩ := t_atom d v (L0.map pr) w dd sz dp x4 x5 x6 s h1 h2 hiT hat
        obtain ⟨i1, i2⟩ := ih L0 (sz + 1) (max dp dd) y4 y5 x6 f (by omega) (by omega) (by omega) hp0 (by omega) (by omega) (by omega)
        rw [l_next hr]
        have e3 : max (max dp dd) (mxL L0) = max dp (max (mxL L0) (dd + ((1 : Nat) : Int) - 1)) := by omega
        have e4 : sz + 1 + ((szL L0 : Nat) : Int) = sz + ((szL L0 + 1 : Nat) : Int) := by omega
        refine ⟨fun h => ?_, fun h => i2 fun q => h ?_⟩
        · obtain ⟨z4, z5, q⟩ := i1 ⟨h.1.1, by have := h.2; omega⟩
          exact ⟨z4, z5, by rw [q, e3, e4]⟩
        · exact ⟨⟨q.1, rfl, by omega⟩, by have := q.2; omega⟩
end K00

set_option Elab.async false
set_option linter.all false
set_option maxRecDepth 100000
set_option maxHeartbeats 4000000
namespace K00
open G
theorem evS_whl {P : Pg} {call : Nat → List W → M W} {c : E} {b : G.S} {env : Env} {s : G.ST} : evS P call (.whl c b) env s = whileS (fun env => evE P call c env) (fun env s => evS P call b env s) P.fuel env s := by rw [evS]
def okD (w : W) : Bool := gdW w && (decide (dpW w ≤ 60) && decide (szW w ≤ 1000))
theorem measured_ok (d : Nat) (w : W) (s : G.ST) (hp : plW w = true) (hs : szW w ≤ 500000) : callD pk.pg (d + 5) 8 [w] s = .ok (if okD w = true then .tup [.int (szW w), .int (dpW w)] else .non) s := by
  rw [call_eq (df := ⟨1, 7, b_measured⟩) rfl rfl]
  obtain ⟨h1, h2⟩ := m_loop d w s (szW w) [(w, 1)] 0 0 none none none 1000000 (by simp [bnd, G.ret, rd, opt, eS, item, seqI, seqL, ixOf, cmpop, biop, bInt, bLen, bList, bAbs, binop, big, asg, fits, line, wEq_str, wEq_int, wEq_bl, bIsi, isTy, szL]) hs (by omega) (by simp [bnd, G.ret, rd, opt, eS, item, seqI, seqL, ixOf, cmpop, biop, bInt, bLen, bList, bAbs, binop, big, asg, fits, line, wEq_str, wEq_int, wEq_bl, bIsi, isTy, hp]) (by omega) (by omega) (by omega)
  have hdw := dpW_pos w
  have e1 : (okL [(w, 1)] ∧ (0 : Int) + szL [(w, 1)] ≤ 1000) ↔ okD w = true := by
    have e0 : szL [(w, 1)] = szW w := by simp [bnd, G.ret, rd, opt, eS, item, seqI, seqL, ixOf, cmpop, biop, bInt, bLen, bList, bAbs, binop, big, asg, fits, line, wEq_str, wEq_int, wEq_bl, bIsi, isTy, szL]
    rw [e0]
    simp only [okL, List.mem_singleton, forall_eq, okD, Bool.and_eq_true, decide_eq_true_eq]
    constructor
    · rintro ⟨⟨a1, a2⟩, a3⟩; exact ⟨a1, by omega, by omega⟩
    · rintro ⟨a1, a2, a3⟩; exact ⟨⟨a1, by omega⟩, by omega⟩
  rw [e1] at h1 h2
  have hb : b_measured = .seq (.par3 1 2 3 (.lst (.cons (.tup (.cons (.var 0) (.cons (.k (.int 1)) .nil))) .nil)) (.k (.int 0)) (.k (.int 0))) (.seq (.whl mCond mStep) (.seq (.rt (.tup (.cons (.var 2) (.cons (.var 3) .nil)))) .nil)) := rfl
  have hf : pk.pg.fuel = 1000000 := rfl
  have e2 : ([(w, (1 : Int))] : Ln).map pr = [.tup [w, .int 1]] := rfl
  rw [e2] at h1 h2
  by_cases h : okD w = true
  · rw [if_pos h]
    obtain ⟨y4, y5, e⟩ := h1 h
    have e3 : max (0 : Int) (mxL [(w, 1)]) = dpW w := by simp only [mxL]; omega
    have e4 : (0 : Int) + szL [(w, 1)] = szW w := by simp [bnd, G.ret, rd, opt, eS, item, seqI, seqL, ixOf, cmpop, biop, bInt, bLen, bList, bAbs, binop, big, asg, fits, line, wEq_str, wEq_int, wEq_bl, bIsi, isTy, szL]
    rw [e3, e4] at e
    simp only [mLoop] at e
    simp [bnd, G.ret, rd, opt, eS, item, seqI, seqL, ixOf, cmpop, biop, bInt, bLen, bList, bAbs, binop, big, asg, fits, line, wEq_str, wEq_int, wEq_bl, bIsi, isTy, hb, evS_whl, hf, e]
  · rw [if_neg h]
    obtain ⟨env', e⟩ := h2 h
    simp only [mLoop] at e
    simp [bnd, G.ret, rd, opt, eS, item, seqI, seqL, ixOf, cmpop, biop, bInt, bLen, bList, bAbs, binop, big, asg, fits, line, wEq_str, wEq_int, wEq_bl, bIsi, isTy, hb, evS_whl, hf, e]
theorem datum_ok (d : Nat) (w : W) (s : G.ST) (hp : plW w = true) (hs : szW w ≤ 500000) : callD pk.pg (d + 6) 11 [w] s = .ok (.bl (okD w)) s := by
  rw [call_eq (df := ⟨1, 1, b_is_datum⟩) rfl rfl]
  have h := measured_ok d w s hp hs
  cases e : okD w with
  | true => rw [e, if_pos rfl] at h; simp [bnd, G.ret, rd, opt, eS, item, seqI, seqL, ixOf, cmpop, biop, bInt, bLen, bList, bAbs, binop, big, asg, fits, line, wEq_str, wEq_int, wEq_bl, bIsi, isTy, b_is_datum, h]
  | false => rw [e, if_neg Bool.false_ne_true] at h; simp [bnd, G.ret, rd, opt, eS, item, seqI, seqL, ixOf, cmpop, biop, bInt, bLen, bList, bAbs, binop, big, asg, fits, line, wEq_str, wEq_int, wEq_bl, bIsi, isTy, b_is_datum, h]
theorem need_ok (d : Nat) (w : W) (s : G.ST) (hp : plW w = true) (hs : szW w ≤ 500000) : callD pk.pg (d + 6) 9 [w] s = if okD w = true then .ok .non s else .exc 0 [] s := by
  rw [call_eq (df := ⟨1, 1, b_need_datum⟩) rfl rfl]
  have h := measured_ok d w s hp hs
  cases e : okD w with
  | true => rw [e, if_pos rfl] at h; simp [bnd, G.ret, rd, opt, eS, item, seqI, seqL, ixOf, cmpop, biop, bInt, bLen, bList, bAbs, binop, big, asg, fits, line, wEq_str, wEq_int, wEq_bl, bIsi, isTy, b_need_datum, h]
  | false => rw [e, if_neg Bool.false_ne_true] at h; simp [bnd, G.ret, rd, opt, eS, item, seqI, seqL, ixOf, cmpop, biop, bInt, bLen, bList, bAbs, binop, big, asg, fits, line, wEq_str, wEq_int, wEq_bl, bIsi, isTy, b_need_datum, h]
theorem size_ok (d : Nat) (w : W) (s : G.ST) (hp : plW w = true) (hs : szW w ≤ 500000) : callD pk.pg (d + 7) 13 [w] s = if okD w = true then .ok (.int (szW w)) s else .exc 0 [] s := by
  rw [call_eq (df := ⟨1, 1, b_datum_size⟩) rfl rfl]
  have h := measured_ok (d + 1) w s hp hs
  have h2 := need_ok d w s hp hs
  cases e : okD w with
  | true => rw [e, if_pos rfl] at h h2; simp [bnd, G.ret, rd, opt, eS, item, seqI, seqL, ixOf, cmpop, biop, bInt, bLen, bList, bAbs, binop, big, asg, fits, line, wEq_str, wEq_int, wEq_bl, bIsi, isTy, b_datum_size, h, h2]
  | false => rw [e, if_neg Bool.false_ne_true] at h2; simp [bnd, G.ret, rd, opt, eS, item, seqI, seqL, ixOf, cmpop, biop, bInt, bLen, bList, bAbs, binop, big, asg, fits, line, wEq_str, wEq_int, wEq_bl, bIsi, isTy, b_datum_size, h2]
theorem depth_ok (d : Nat) (w : W) (s : G.ST) (hp : plW w = true) (hs : szW w ≤ 500000) : callD pk.pg (d + 7) 14 [w] s = if okD w = true then .ok (.int (dpW w)) s else .exc 0 [] s := by
  rw [call_eq (df := ⟨1, 1, b_datum_depth⟩) rfl rfl]
  have h := measured_ok (d + 1) w s hp hs
  have h2 := need_ok d w s hp hs
  cases e : okD w with
  | true => rw [e, if_pos rfl] at h h2; simp [bnd, G.ret, rd, opt, eS, item, seqI, seqL, ixOf, cmpop, biop, bInt, bLen, bList, bAbs, binop, big, asg, fits, line, wEq_str, wEq_int, wEq_bl, bIsi, isTy, b_datum_depth, h, h2]
  | false => rw [e, if_neg Bool.false_ne_true] at h2; simp [bnd, G.ret, rd, opt, eS, item, seqI, seqL, ixOf, cmpop, biop, bInt, bLen, bList, bAbs, binop, big, asg, fits, line, wEq_str, wEq_int, wEq_bl, bIsi, isTy, b_datum_depth, h2]
/-! names, special names -/
theorem isword_ok (d : Nat) (l : List Nat) (s : G.ST) (hl : l.length ≤ 16777216) : callD pk.pg (d + 4) 10 [.str l] s = .ok (.bl (wordB l)) s := by
  rw [call_eq (df := ⟨1, 1, b_is_word⟩) rfl rfl]
  simp [bnd, G.ret, rd, opt, eS, item, seqI, seqL, ixOf, cmpop, biop, bInt, bLen, bList, bAbs, binop, big, asg, fits, line, wEq_str, wEq_int, wEq_bl, bIsi, isTy, b_is_word, word_ok d l s hl]
theorem isword_no (d : Nat) (w : W) (s : G.ST) (h : notStr w = true) : callD pk.pg (d + 4) 10 [w] s = .ok (.bl false) s := by
  rw [call_eq (df := ⟨1, 1, b_is_word⟩) rfl rfl]
  simp [bnd, G.ret, rd, opt, eS, item, seqI, seqL, ixOf, cmpop, biop, bInt, bLen, bList, bAbs, binop, big, asg, fits, line, wEq_str, wEq_int, wEq_bl, bIsi, isTy, b_is_word, word_no d w s h]
end K00

set_option Elab.async false
set_option linter.all false
set_option maxRecDepth 100000
set_option maxHeartbeats 4000000
namespace K00
open G
theorem ne_nilL (xs : List W) (s : G.ST) : cmpop .ne (.lst xs) (.lst []) s = some (!xs.isEmpty) := by
  cases xs with
  | nil => rfl
  | cons x xs =>
    have e1 : eqOk 64 (.lst (x :: xs)) (.lst []) = true := by rw [eqOk]; simp [bnd, G.ret, rd, opt, eS, seqI, seqL, biop, bInt, bLen, bList, bAbs, binop, big, asg, fits, line, bIsi, isTy]
    have e2 : weq (.lst (x :: xs)) (.lst []) = false := rfl
    simp [bnd, G.ret, rd, opt, eS, seqI, seqL, biop, bInt, bLen, bList, bAbs, binop, big, asg, fits, line, bIsi, isTy, cmpop, wEq, deref, e1, e2]
theorem ne_str (x y : List Nat) (s : G.ST) : cmpop .ne (.str x) (.str y) s = some (!(x == y)) := rfl
theorem eq_str (x y : List Nat) (s : G.ST) : cmpop .eq (.str x) (.str y) s = some (x == y) := rfl
theorem le_int (x y : Int) (s : G.ST) : cmpop .le (.int x) (.int y) s = some (decide (x ≤ y)) := rfl
theorem gt_int (x y : Int) (s : G.ST) : cmpop .gt (.int x) (.int y) s = some (decide (y < x)) := rfl
theorem lt_int (x y : Int) (s : G.ST) : cmpop .lt (.int x) (.int y) s = some (decide (x < y)) := rfl
theorem eq_int (x y : Int) (s : G.ST) : cmpop .eq (.int x) (.int y) s = some (x == y) := rfl
def nameB (l : List Nat) : Bool := wordB l && (!(l == [116]) && !(l.take 1 == [58]))
theorem name_ok (d : Nat) (l : List Nat) (s : G.ST) (hl : l.length ≤ 16777216) : callD pk.pg (d + 4) 4 [.str l] s = .ok (.bl (nameB l)) s := by
  rw [call_eq (df := ⟨1, 1, b_fits_name⟩) rfl rfl]
  have h := word_ok d l s hl
  cases e : wordB l with
  | false => rw [e] at h; simp [bnd, G.ret, rd, opt, eS, seqI, seqL, biop, bInt, bLen, bList, bAbs, binop, big, asg, fits, line, bIsi, isTy, b_fits_name, h, nameB, e]
  | true =>
    rw [e] at h
    cases l with
    | nil => simp [bnd, G.ret, rd, opt, eS, seqI, seqL, biop, bInt, bLen, bList, bAbs, binop, big, asg, fits, line, bIsi, isTy, wordB, madeB] at e
    | cons c l =>
      have hl' : l.length + 1 ≤ 16777216 := by simpa [bnd, G.ret, rd, opt, eS, seqI, seqL, biop, bInt, bLen, bList, bAbs, binop, big, asg, fits, line, bIsi, isTy] using hl
      cases e2 : (c :: l == [116]) with
      | true => simp [bnd, G.ret, rd, opt, eS, seqI, seqL, biop, bInt, bLen, bList, bAbs, binop, big, asg, fits, line, bIsi, isTy, b_fits_name, h, nameB, e, ne_str, e2]
      | false => simp [bnd, G.ret, rd, opt, eS, seqI, seqL, biop, bInt, bLen, bList, bAbs, binop, big, asg, fits, line, bIsi, isTy, b_fits_name, h, nameB, e, ne_str, e2, item, ixOf, hl']
theorem name_no (d : Nat) (w : W) (s : G.ST) (h : notStr w = true) : callD pk.pg (d + 4) 4 [w] s = .ok (.bl false) s := by
  rw [call_eq (df := ⟨1, 1, b_fits_name⟩) rfl rfl]
  simp [bnd, G.ret, rd, opt, eS, seqI, seqL, biop, bInt, bLen, bList, bAbs, binop, big, asg, fits, line, bIsi, isTy, b_fits_name, word_no d w s h]
def within : List Nat := [97, 98, 99, 100, 101, 102, 103, 104, 105, 106, 107, 108, 109, 110, 111, 112, 113, 114, 115, 116, 117, 118, 119, 120, 121, 122, 48, 49, 50, 51, 52, 53, 54, 55, 56, 57]
def specB (l : List Nat) : Bool := nameB l && ((l.head? == some 42) && ((l.getLast? == some 42) && l.any (fun c => decide (c ∈ within))))
theorem item0 (c : Nat) (l : List Nat) (s : G.ST) (hl : l.length + 1 ≤ 16777216) : item (.str (c :: l)) (.int 0) s = some (.str [c]) := by
  simp [bnd, G.ret, rd, opt, eS, seqI, seqL, biop, bInt, bLen, bList, bAbs, binop, big, asg, fits, line, bIsi, isTy, item, ixOf, hl]
theorem itemL (c : Nat) (l : List Nat) (s : G.ST) (hl : l.length + 1 ≤ 16777216) : item (.str (c :: l)) (.int (-1)) s = some (.str [(c :: l).getLast (by simp [bnd, G.ret, rd, opt, eS, seqI, seqL, biop, bInt, bLen, bList, bAbs, binop, big, asg, fits, line, bIsi, isTy])]) := by
  have h1 : ixOf (-1) (c :: l).length = some l.length := by
    simp only [ixOf, List.length_cons]
    rw [if_neg (by omega), if_pos (by omega)]
    congr 1; omega
  have h2 : (c :: l)[l.length]? = some ((c :: l).getLast (by simp [bnd, G.ret, rd, opt, eS, seqI, seqL, biop, bInt, bLen, bList, bAbs, binop, big, asg, fits, line, bIsi, isTy])) := by
    rw [List.getLast_eq_getElem]; simp [bnd, G.ret, rd, opt, eS, seqI, seqL, biop, bInt, bLen, bList, bAbs, binop, big, asg, fits, line, bIsi, isTy]
  have h3 : (c :: l).length ≤ line := by simpa [bnd, G.ret, rd, opt, eS, seqI, seqL, biop, bInt, bLen, bList, bAbs, binop, big, asg, fits, line, bIsi, isTy] using hl
  simp only [item, if_pos h3, h1, Option.bind_some, h2, Option.map_some]
theorem boolsW_any {α : Type} {l : List α} {q : α → Bool} {s : G.ST} : biop .any [.lst (l.map fun c => .bl (q c))] s = some (.bl (l.any q)) := by
  simp only [biop, bBools, seqL, Option.bind_some, boolsW_map, Option.map_some]
  simp [bnd, G.ret, rd, opt, eS, seqI, seqL, biop, bInt, bLen, bList, bAbs, binop, big, asg, fits, line, bIsi, isTy, List.any_map, Function.comp_def]
theorem spec_ok (d : Nat) (l : List Nat) (s : G.ST) (hl : l.length ≤ 16777216) : callD pk.pg (d + 5) 5 [.str l] s = .ok (.bl (specB l)) s := by
  rw [call_eq (df := ⟨1, 2, b_fits_special⟩) rfl rfl]
  have h := name_ok d l s hl
  have hc : pk.pg.consts[6]? = some (.str within) := rfl
  have hm : evE pk.pg (callD pk.pg (d + 4)) (.lc (.v 1) (.itr (.var 0)) .nil (.cmp .isin (.var 1) (.glob 6)) [1]) [some (.str l), none] s = .ok (.lst (l.map fun c => .bl (decide (c ∈ within)))) s :=
    lc_mapL (f := fun c => .str [c]) (by simp [bnd, G.ret, rd, opt, eS, seqI, seqL, biop, bInt, bLen, bList, bAbs, binop, big, asg, fits, line, bIsi, isTy, srcOf]) str1_inj (fun c _ => ⟨_, rfl, by simp [bnd, G.ret, rd, opt, eS, seqI, seqL, biop, bInt, bLen, bList, bAbs, binop, big, asg, fits, line, bIsi, isTy, wipes, cmp_in1, hc]⟩) hl
  cases e : nameB l with
  | false => rw [e] at h; simp [bnd, G.ret, rd, opt, eS, seqI, seqL, biop, bInt, bLen, bList, bAbs, binop, big, asg, fits, line, bIsi, isTy, b_fits_special, h, specB, e]
  | true =>
    rw [e] at h
    cases l with
    | nil => simp [bnd, G.ret, rd, opt, eS, seqI, seqL, biop, bInt, bLen, bList, bAbs, binop, big, asg, fits, line, bIsi, isTy, nameB, wordB, madeB] at e
    | cons c l =>
      have hl' : l.length + 1 ≤ 16777216 := by simpa [bnd, G.ret, rd, opt, eS, seqI, seqL, biop, bInt, bLen, bList, bAbs, binop, big, asg, fits, line, bIsi, isTy] using hl
      have hg : ((c :: l).getLast? == some 42) = ((c :: l).getLast (by simp [bnd, G.ret, rd, opt, eS, seqI, seqL, biop, bInt, bLen, bList, bAbs, binop, big, asg, fits, line, bIsi, isTy]) == 42) := by rw [List.getLast?_eq_some_getLast (by simp [bnd, G.ret, rd, opt, eS, seqI, seqL, biop, bInt, bLen, bList, bAbs, binop, big, asg, fits, line, bIsi, isTy])]; rfl
      have hg1 : ∀ x : Nat, ([x] == [42]) = (x == 42) := fun x => by cases h : (x == 42) <;> simp_all [bnd, G.ret, rd, opt, eS, seqI, seqL, biop, bInt, bLen, bList, bAbs, binop, big, asg, fits, line, bIsi, isTy]
      simp only [specB, e, hg, List.head?_cons, Bool.true_and]
      have hg2 : (some c == some 42) = (c == 42) := rfl
      rw [hg2]
      cases e2 : (c == 42) with
      | false => simp only [b_fits_special]; simp [bnd, G.ret, rd, opt, eS, seqI, seqL, biop, bInt, bLen, bList, bAbs, binop, big, asg, fits, line, bIsi, isTy, h, eq_str, item0, hl', hg1, e2]
      | true =>
        cases e3 : ((c :: l).getLast (by simp [bnd, G.ret, rd, opt, eS, seqI, seqL, biop, bInt, bLen, bList, bAbs, binop, big, asg, fits, line, bIsi, isTy]) == 42) with
        | false => simp only [b_fits_special]; simp [bnd, G.ret, rd, opt, eS, seqI, seqL, biop, bInt, bLen, bList, bAbs, binop, big, asg, fits, line, bIsi, isTy, h, eq_str, item0, itemL, hl', hg1, e2, e3]
        | true =>
          have ha := boolsW_any (l := c :: l) (q := fun c => decide (c ∈ within)) (s := s)
          simp only [b_fits_special]
          simp only [xS_seq, xS_rt, xE_and, xE_call, xA_cons, xA_nil, xE_var, eS, bnd, G.ret, opt, rd, call_eq, h, xE_cmp, xE_ix, xE_k, xE_neg, item0 _ _ _ hl', itemL _ _ _ hl', eq_str, hg1, e2, e3, x_bi_any, hm, ha, List.map_cons, List.map_nil, List.getElem?_cons_zero]
          simp [bnd, G.ret, rd, opt, eS, seqI, seqL, biop, bInt, bLen, bList, bAbs, binop, big, asg, fits, line, bIsi, isTy, h, e2, e3, eq_str, item0, itemL, hl', hg1, hm, ha, -List.map_cons, -List.any_cons, -biop]
end K00

set_option Elab.async false
set_option linter.all false
set_option maxRecDepth 100000
set_option maxHeartbeats 4000000
namespace K00
open G
theorem filt_all (l S : List Nat) : (l.filter fun c => !decide (c ∈ S)).isEmpty = l.all fun c => decide (c ∈ S) := by
  induction l with
  | nil => rfl
  | cons c l ih =>
    by_cases h : c ∈ S
    · simp [bnd, G.ret, rd, opt, eS, seqI, seqL, biop, bInt, bLen, bList, bAbs, binop, big, asg, fits, line, bIsi, isTy, h] at ih ⊢; simpa [bnd, G.ret, rd, opt, eS, seqI, seqL, biop, bInt, bLen, bList, bAbs, binop, big, asg, fits, line, bIsi, isTy] using ih
    · simp [bnd, G.ret, rd, opt, eS, seqI, seqL, biop, bInt, bLen, bList, bAbs, binop, big, asg, fits, line, bIsi, isTy, h]
theorem notin1 (c : Nat) (y : List Nat) (s : G.ST) : cmpop .notin (.str [c]) (.str y) s = some (!decide (c ∈ y)) := rfl
theorem pre1 (l : List Nat) (s : G.ST) (hl : l.length ≤ 16777216) : slice (.str l) none (some 1) s = some (.str (l.take 1)) := by
  cases l with
  | nil => simp [bnd, G.ret, rd, opt, eS, seqI, seqL, biop, bInt, bLen, bList, bAbs, binop, big, asg, fits, line, bIsi, isTy, slice, cut, cutIx]
  | cons c l =>
    have hl' : l.length + 1 ≤ 16777216 := by simpa [bnd, G.ret, rd, opt, eS, seqI, seqL, biop, bInt, bLen, bList, bAbs, binop, big, asg, fits, line, bIsi, isTy] using hl
    have : min 1 (l.length + 1) = 1 := by omega
    simp [bnd, G.ret, rd, opt, eS, seqI, seqL, biop, bInt, bLen, bList, bAbs, binop, big, asg, fits, line, bIsi, isTy, slice, cut, cutIx, hl', this]
theorem suf1 (l : List Nat) (s : G.ST) (hl : l.length ≤ 16777216) : slice (.str l) (some 1) none s = some (.str (l.drop 1)) := by
  cases l with
  | nil => simp [bnd, G.ret, rd, opt, eS, seqI, seqL, biop, bInt, bLen, bList, bAbs, binop, big, asg, fits, line, bIsi, isTy, slice, cut, cutIx]
  | cons c l =>
    have hl' : l.length + 1 ≤ 16777216 := by simpa [bnd, G.ret, rd, opt, eS, seqI, seqL, biop, bInt, bLen, bList, bAbs, binop, big, asg, fits, line, bIsi, isTy] using hl
    have : min 1 (l.length + 1) = 1 := by omega
    simp [bnd, G.ret, rd, opt, eS, seqI, seqL, biop, bInt, bLen, bList, bAbs, binop, big, asg, fits, line, bIsi, isTy, slice, cut, cutIx, hl', this]
/-- in ('+', '-') -/
theorem insg (l : List Nat) (s : G.ST) : cmpop .isin (.str (l.take 1)) (.tup [.str [43], .str [45]]) s = some (match l with | 43 :: _ => true | 45 :: _ => true | _ => false) := by
  cases l with
  | nil => rfl
  | cons c l =>
    have e : cmpop .isin (.str [c]) (.tup [.str [43], .str [45]]) s = some ((43 == c) || ((45 == c) || false)) := by
      simp [bnd, G.ret, rd, opt, eS, seqI, seqL, biop, bInt, bLen, bList, bAbs, binop, big, asg, fits, line, bIsi, isTy, cmpop, memOk, eqOk, isSc, weq]
    simp only [List.take_succ_cons, List.take_zero]
    rw [e]
    by_cases h1 : c = 43
    · subst h1; rfl
    · by_cases h2 : c = 45
      · subst h2; rfl
      · have n3 : (43 == c) = false := by simpa [bnd, G.ret, rd, opt, eS, seqI, seqL, biop, bInt, bLen, bList, bAbs, binop, big, asg, fits, line, bIsi, isTy] using fun h => h1 h.symm
        have n4 : (45 == c) = false := by simpa [bnd, G.ret, rd, opt, eS, seqI, seqL, biop, bInt, bLen, bList, bAbs, binop, big, asg, fits, line, bIsi, isTy] using fun h => h2 h.symm
        rw [n3, n4]
        split <;> simp_all [bnd, G.ret, rd, opt, eS, seqI, seqL, biop, bInt, bLen, bList, bAbs, binop, big, asg, fits, line, bIsi, isTy]
theorem unsg_ite (l : List Nat) : unsg l = if (match l with | 43 :: _ => true | 45 :: _ => true | _ => false) = true then l.drop 1 else l := by
  unfold unsg
  split <;> simp_all [bnd, G.ret, rd, opt, eS, seqI, seqL, biop, bInt, bLen, bList, bAbs, binop, big, asg, fits, line, bIsi, isTy]
theorem unsg_len (l : List Nat) : (unsg l).length ≤ l.length := by
  unfold unsg
  split <;> simp [bnd, G.ret, rd, opt, eS, seqI, seqL, biop, bInt, bLen, bList, bAbs, binop, big, asg, fits, line, bIsi, isTy]
theorem lword_ok (d : Nat) (l : List Nat) (s : G.ST) (hl : l.length ≤ 16777216) : callD pk.pg (d + 1) 22 [.str l] s = .ok (.bl (wordB l)) s := by
  rw [call_eq (df := ⟨1, 4, b__law_is_word⟩) rfl rfl]
  have c1 : ∀ x3, evE pk.pg (callD pk.pg d) (.lc (.v 3) (.itr (.var 0)) (.cons (.cmp .notin (.var 3) (.var 1)) .nil) (.var 3) [3]) [some (.str l), some (.str signs), some (.str (unsg l)), x3] s = .ok (.lst ((l.filter fun c => !decide (c ∈ signs)).map fun c => .str [c])) s := fun x3 =>
    lc_filtL (f := fun c => .str [c]) (by simp [bnd, G.ret, rd, opt, eS, seqI, seqL, biop, bInt, bLen, bList, bAbs, binop, big, asg, fits, line, bIsi, isTy, srcOf]) str1_inj (fun c _ => ⟨_, rfl, by cases h : decide (c ∈ signs) <;> simp [bnd, G.ret, rd, opt, eS, seqI, seqL, biop, bInt, bLen, bList, bAbs, binop, big, asg, fits, line, bIsi, isTy, wipes, notin1, h], fun _ => by simp [bnd, G.ret, rd, opt, eS, seqI, seqL, biop, bInt, bLen, bList, bAbs, binop, big, asg, fits, line, bIsi, isTy, wipes]⟩) hl
  have c2 : ∀ x3, evE pk.pg (callD pk.pg d) (.lc (.v 3) (.itr (.var 2)) (.cons (.cmp .notin (.var 3) (.k (.str figs))) .nil) (.var 3) [3]) [some (.str l), some (.str signs), some (.str (unsg l)), x3] s = .ok (.lst (((unsg l).filter fun c => !decide (c ∈ figs)).map fun c => .str [c])) s := fun x3 =>
    lc_filtL (f := fun c => .str [c]) (by simp [bnd, G.ret, rd, opt, eS, seqI, seqL, biop, bInt, bLen, bList, bAbs, binop, big, asg, fits, line, bIsi, isTy, srcOf]) str1_inj (fun c _ => ⟨_, rfl, by cases h : decide (c ∈ figs) <;> simp [bnd, G.ret, rd, opt, eS, seqI, seqL, biop, bInt, bLen, bList, bAbs, binop, big, asg, fits, line, bIsi, isTy, wipes, notin1, h], fun _ => by simp [bnd, G.ret, rd, opt, eS, seqI, seqL, biop, bInt, bLen, bList, bAbs, binop, big, asg, fits, line, bIsi, isTy, wipes]⟩) (Nat.le_trans (unsg_len l) hl)
  have hu := unsg_ite l
  have e0 : evE pk.pg (callD pk.pg d) (.ife (.cmp .isin (.sl (.var 0) .no (.itr (.k (.int 1)))) (.tup (.cons (.k (.str [43])) (.cons (.k (.str [45])) .nil)))) (.sl (.var 0) (.itr (.k (.int 1))) .no) (.var 0)) [some (.str l), none, none, none] s = .ok (.str (unsg l)) s := by
    cases e : (match l with | 43 :: _ => true | 45 :: _ => true | _ => false) with
    | true => rw [hu, e]; simp [bnd, G.ret, rd, opt, eS, seqI, seqL, biop, bInt, bLen, bList, bAbs, binop, big, asg, fits, line, bIsi, isTy, pre1, suf1, insg, hl, e]
    | false => rw [hu, e]; simp [bnd, G.ret, rd, opt, eS, seqI, seqL, biop, bInt, bLen, bList, bAbs, binop, big, asg, fits, line, bIsi, isTy, pre1, suf1, insg, hl, e]
  have hb : b__law_is_word = .seq (.asg (.cons (.v 1) (.cons (.v 2) .nil)) (.tup (.cons (.k (.str signs)) (.cons (.ife (.cmp .isin (.sl (.var 0) .no (.itr (.k (.int 1)))) (.tup (.cons (.k (.str [43])) (.cons (.k (.str [45])) .nil)))) (.sl (.var 0) (.itr (.k (.int 1))) .no) (.var 0)) .nil)))) (.seq (.ife (.or (.not (.chain .le .le (.k (.int 1)) (.bi .len (.cons (.var 0) .nil)) (.k (.int 20)))) (.or (.cmp .eq (.var 0) (.k (.str [110, 105, 108]))) (.cmp .ne (.lc (.v 3) (.itr (.var 0)) (.cons (.cmp .notin (.var 3) (.var 1)) .nil) (.var 3) [3]) (.lst .nil)))) (.seq (.rt (.k (.bl false))) .nil) .nil) (.seq (.rt (.or (.cmp .eq (.var 2) (.k (.str []))) (.cmp .ne (.lc (.v 3) (.itr (.var 2)) (.cons (.cmp .notin (.var 3) (.k (.str figs))) .nil) (.var 3) [3]) (.lst .nil)))) .nil)) := rfl
  rw [hb]
  have hen : ∀ (xs : List Nat), ((xs.map fun c => W.str [c]).isEmpty) = xs.isEmpty := fun xs => by cases xs <;> rfl
  by_cases h0 : l = []
  · subst h0
    simp [bnd, G.ret, rd, opt, eS, seqI, seqL, biop, bInt, bLen, bList, bAbs, binop, big, asg, fits, line, bIsi, isTy, -xE_ife, e0, le_int, wordB, madeB, asgs]
  have h0' : (l == []) = false := by simpa [bnd, G.ret, rd, opt, eS, seqI, seqL, biop, bInt, bLen, bList, bAbs, binop, big, asg, fits, line, bIsi, isTy] using h0
  have hlen : 1 ≤ l.length := by
    cases l with
    | nil => exact (h0 rfl).elim
    | cons _ _ => simp [bnd, G.ret, rd, opt, eS, seqI, seqL, biop, bInt, bLen, bList, bAbs, binop, big, asg, fits, line, bIsi, isTy]
  have i1 : (1 : Int) ≤ l.length := by omega
  by_cases h1 : l.length ≤ 20
  · have i2 : (l.length : Int) ≤ 20 := by omega
    cases e3 : (l == [110, 105, 108]) with
    | true => simp [bnd, G.ret, rd, opt, eS, seqI, seqL, biop, bInt, bLen, bList, bAbs, binop, big, asg, fits, line, bIsi, isTy, -xE_ife, e0, le_int, wordB, asgs, i1, i2, hl, eq_str, e3, nil3]
    | false =>
      cases e4 : (l.all fun c => decide (c ∈ signs)) with
      | false =>
        have e5 : (l.filter fun c => !decide (c ∈ signs)).isEmpty = false := by rw [filt_all, e4]
        simp [bnd, G.ret, rd, opt, eS, seqI, seqL, biop, bInt, bLen, bList, bAbs, binop, big, asg, fits, line, bIsi, isTy, -xE_ife, e0, le_int, wordB, madeB, asgs, i1, i2, hl, eq_str, e3, c1, ne_nilL, hen, e5, e4]
      | true =>
        have e5 : (l.filter fun c => !decide (c ∈ signs)).isEmpty = true := by rw [filt_all, e4]
        cases e6 : (unsg l == []) with
        | true => simp [bnd, G.ret, rd, opt, eS, seqI, seqL, biop, bInt, bLen, bList, bAbs, binop, big, asg, fits, line, bIsi, isTy, -xE_ife, e0, le_int, wordB, madeB, figB, asgs, i1, i2, hl, eq_str, e3, c1, ne_nilL, hen, e5, e4, e6, h0', h1, nil3]
        | false =>
          have e7 : ((unsg l).filter fun c => !decide (c ∈ figs)).isEmpty = (unsg l).all fun c => decide (c ∈ figs) := filt_all _ _
          simp [bnd, G.ret, rd, opt, eS, seqI, seqL, biop, bInt, bLen, bList, bAbs, binop, big, asg, fits, line, bIsi, isTy, -xE_ife, e0, le_int, wordB, madeB, figB, asgs, i1, i2, hl, eq_str, e3, c1, c2, ne_nilL, hen, e5, e4, e6, e7, h0', h1, nil3]
  · have i2 : ¬ (l.length : Int) ≤ 20 := by omega
    simp [bnd, G.ret, rd, opt, eS, seqI, seqL, biop, bInt, bLen, bList, bAbs, binop, big, asg, fits, line, bIsi, isTy, -xE_ife, e0, le_int, wordB, asgs, i1, i2, hl, h1]
end K00

set_option Elab.async false
set_option linter.all false
set_option maxRecDepth 100000
set_option maxHeartbeats 4000000
namespace K00
open G
theorem unsg_mem {l : List Nat} {c : Nat} (h : c ∈ l) (h1 : c ≠ 43) (h2 : c ≠ 45) : c ∈ unsg l := by
  unfold unsg
  split <;> simp_all [bnd, G.ret, rd, opt, eS, seqI, seqL, biop, bInt, bLen, bList, bAbs, binop, big, asg, fits, line, bIsi, isTy]
theorem wordB_of {l : List Nat} {c : Nat} (h : c ∈ l) (h1 : c ≠ 43) (h2 : c ≠ 45) (h3 : c ∉ figs) (h4 : ∀ x ∈ l, x ∈ signs) (h5 : l.length ≤ 20) (h6 : l ≠ nil3) : wordB l = true := by
  have e1 : (l == []) = false := by simpa [bnd, G.ret, rd, opt, eS, seqI, seqL, biop, bInt, bLen, bList, bAbs, binop, big, asg, fits, line, bIsi, isTy] using List.ne_nil_of_mem h
  have e2 : (l.all fun c => decide (c ∈ signs)) = true := by simpa [bnd, G.ret, rd, opt, eS, seqI, seqL, biop, bInt, bLen, bList, bAbs, binop, big, asg, fits, line, bIsi, isTy] using h4
  have e3 : ((unsg l).all fun c => decide (c ∈ figs)) = false := by
    rw [List.all_eq_false]
    exact ⟨c, unsg_mem h h1 h2, by simpa [bnd, G.ret, rd, opt, eS, seqI, seqL, biop, bInt, bLen, bList, bAbs, binop, big, asg, fits, line, bIsi, isTy] using h3⟩
  have e4 : (l == nil3) = false := by simpa [bnd, G.ret, rd, opt, eS, seqI, seqL, biop, bInt, bLen, bList, bAbs, binop, big, asg, fits, line, bIsi, isTy] using h6
  simp [bnd, G.ret, rd, opt, eS, seqI, seqL, biop, bInt, bLen, bList, bAbs, binop, big, asg, fits, line, bIsi, isTy, wordB, madeB, figB, e1, e2, e3, e4, h5]
theorem str_pre (f : List Nat) (s : G.ST) (h : f.length ≤ 1000) : slice (.str f) none (some (-1)) s = some (.str (f.take (f.length - 1))) := by
  have h1 : cutIx f.length f.length (some (-1)) = f.length - 1 := by
    simp only [cutIx]; rw [if_pos (by omega)]; omega
  have h2 : f.length ≤ line := by unfold line; omega
  simp only [slice, if_pos h2, cut, h1, cutIx]
  simp [bnd, G.ret, rd, opt, eS, seqI, seqL, biop, bInt, bLen, bList, bAbs, binop, big, asg, fits, line, bIsi, isTy]
  omega
def sigs2 : List Nat := [97, 98, 99, 100, 101, 102, 103, 104, 105, 106, 107, 108, 109, 110, 111, 112, 113, 114, 115, 116, 117, 118, 119, 120, 121, 122, 48, 49, 50, 51, 52, 53, 54, 55, 56, 57, 45, 42, 43, 47, 60, 62, 61, 33, 63, 38, 58, 97, 98, 48, 49]
theorem sigs2_ok : ∀ c ∈ sigs2, c ∈ signs := by decide
theorem lawword_ok (d : Nat) (a b : Int) (t : G.ST) : ∃ l a' b', wordB l = true ∧ l.length ≤ 20 ∧ callD pk.pg (d + 3) 18 [.ref 0] (cup a b t) = .ok (.str l) (cup a' b' t) := by
  obtain ⟨r, a1, b1, r1, r2, er⟩ := roll (d + 1) 6 a b t (by omega) (by omega)
  have hI : evI pk.pg (callD pk.pg (d + 2)) (.rng (.cons (.bin .add (.k (.int 1)) (.call 16 (.cons (.var 0) (.cons (.k (.int 6)) .nil)))) .nil)) [some (.ref 0), some (.str []), none] (cup a b t) = .ok (.row (rngW 0 (1 + r).toNat)) (cup a1 b1 t) := by
    have q : -small < 1 + r ∧ 1 + r < small := by unfold small; omega
    simp [bnd, G.ret, rd, opt, eS, seqI, seqL, biop, bInt, bLen, bList, bAbs, binop, big, asg, fits, line, bIsi, isTy, er, rngOf, q]
  have hlen : ∀ n lo, (rngW lo n).length = n := fun n => by
    induction n with
    | zero => intro lo; rfl
    | succ n ih => intro lo; simp [bnd, G.ret, rd, opt, eS, seqI, seqL, biop, bInt, bLen, bList, bAbs, binop, big, asg, fits, line, bIsi, isTy, rngW, ih]
  obtain ⟨env', s2, ef, ⟨a2, b2, x2, f, hs, he, hf1, hf2⟩⟩ := for_inv (t := .v 2) (b := .seq (.asg (.v 1) (.bin .add (.var 1) (.call 17 (.cons (.var 0) (.cons (.k (.str sigs2)) .nil))))) .nil) hI
    (fun j env s => ∃ a b x2 f, s = cup a b t ∧ env = [some (.ref 0), some (.str f), x2] ∧ f.length = j ∧ ∀ c ∈ f, c ∈ signs) ⟨a1, b1, none, [], rfl, rfl, rfl, by simp [bnd, G.ret, rd, opt, eS, seqI, seqL, biop, bInt, bLen, bList, bAbs, binop, big, asg, fits, line, bIsi, isTy]⟩
    (fun j x env s hj ⟨a, b, x2, f, hs, he, hf1, hf2⟩ => by
      subst hs; subst he
      have hjl : j < (1 + r).toNat := by
        have := (List.getElem?_eq_some_iff.mp hj).1
        rwa [hlen] at this
      obtain ⟨c, a', b', hc, e⟩ := somS d sigs2 a b t (by decide) (by decide)
      have hl : f.length + 1 ≤ 16777216 := by omega
      refine ⟨[some (.ref 0), some (.str f), some x], [some (.ref 0), some (.str (f ++ [c])), some x], cup a' b' t, by simp [bnd, G.ret, rd, opt, eS, seqI, seqL, biop, bInt, bLen, bList, bAbs, binop, big, asg, fits, line, bIsi, isTy], by simp [bnd, G.ret, rd, opt, eS, seqI, seqL, biop, bInt, bLen, bList, bAbs, binop, big, asg, fits, line, bIsi, isTy, e, hl], a', b', some x, f ++ [c], rfl, rfl, by simp [bnd, G.ret, rd, opt, eS, seqI, seqL, biop, bInt, bLen, bList, bAbs, binop, big, asg, fits, line, bIsi, isTy, hf1], fun y hy => ?_⟩
      rcases List.mem_append.mp hy with h | h
      · exact hf2 y h
      · rw [List.mem_singleton.mp h]; exact sigs2_ok c hc)
  subst hs; subst he
  rw [hlen] at hf1
  have hfl : 1 ≤ f.length ∧ f.length ≤ 6 := by omega
  obtain ⟨i, x, a3, b3, hx, ex⟩ := somL d [.str (f.take (f.length - 1) ++ [120]), .str (f.take (f.length - 1) ++ [120]), .str ([42] ++ f ++ [42]), .str [116], .str [43], .str [113, 117, 111, 116, 101], .str [102, 117, 110, 99, 116, 105, 111, 110], .str [97, 45, 98]] a2 b2 t (by simp [bnd, G.ret, rd, opt, eS, seqI, seqL, biop, bInt, bLen, bList, bAbs, binop, big, asg, fits, line, bIsi, isTy]) (by simp [bnd, G.ret, rd, opt, eS, seqI, seqL, biop, bInt, bLen, bList, bAbs, binop, big, asg, fits, line, bIsi, isTy])
  have hw1 : wordB (f.take (f.length - 1) ++ [120]) = true := by
    refine wordB_of (c := 120) (by simp [bnd, G.ret, rd, opt, eS, seqI, seqL, biop, bInt, bLen, bList, bAbs, binop, big, asg, fits, line, bIsi, isTy]) (by decide) (by decide) (by decide) (fun y hy => ?_) (by simp [bnd, G.ret, rd, opt, eS, seqI, seqL, biop, bInt, bLen, bList, bAbs, binop, big, asg, fits, line, bIsi, isTy]; omega) (fun h => ?_)
    · rcases List.mem_append.mp hy with h | h
      · exact hf2 y (List.mem_of_mem_take h)
      · rw [List.mem_singleton.mp h]; decide
    · have := congrArg List.getLast? h
      simp [bnd, G.ret, rd, opt, eS, seqI, seqL, biop, bInt, bLen, bList, bAbs, binop, big, asg, fits, line, bIsi, isTy, nil3] at this
  have hw2 : wordB ([42] ++ f ++ [42]) = true := by
    refine wordB_of (c := 42) (by simp [bnd, G.ret, rd, opt, eS, seqI, seqL, biop, bInt, bLen, bList, bAbs, binop, big, asg, fits, line, bIsi, isTy]) (by decide) (by decide) (by decide) (fun y hy => ?_) (by simp [bnd, G.ret, rd, opt, eS, seqI, seqL, biop, bInt, bLen, bList, bAbs, binop, big, asg, fits, line, bIsi, isTy]; omega) (fun h => ?_)
    · simp only [List.mem_append, List.mem_singleton] at hy
      rcases hy with (h | h) | h
      · rw [h]; decide
      · exact hf2 y h
      · rw [h]; decide
    · have := congrArg List.head? h
      simp [bnd, G.ret, rd, opt, eS, seqI, seqL, biop, bInt, bLen, bList, bAbs, binop, big, asg, fits, line, bIsi, isTy, nil3] at this
  have hxs : ∃ l, x = .str l ∧ wordB l = true ∧ l.length ≤ 20 := by
    have hm := List.mem_of_getElem? hx
    simp only [List.mem_cons, List.not_mem_nil, or_false] at hm
    rcases hm with h | h | h | h | h | h | h | h
    · exact ⟨_, h, hw1, by simp [bnd, G.ret, rd, opt, eS, seqI, seqL, biop, bInt, bLen, bList, bAbs, binop, big, asg, fits, line, bIsi, isTy]; omega⟩
    · exact ⟨_, h, hw1, by simp [bnd, G.ret, rd, opt, eS, seqI, seqL, biop, bInt, bLen, bList, bAbs, binop, big, asg, fits, line, bIsi, isTy]; omega⟩
    · exact ⟨_, h, hw2, by simp [bnd, G.ret, rd, opt, eS, seqI, seqL, biop, bInt, bLen, bList, bAbs, binop, big, asg, fits, line, bIsi, isTy]; omega⟩
    all_goals exact ⟨_, h, by decide, by decide⟩
  obtain ⟨l, rfl, h1, h2⟩ := hxs
  refine ⟨l, a3, b3, h1, h2, ?_⟩
  rw [call_eq (df := ⟨1, 3, b__law_word⟩) rfl rfl]
  have hb : b__law_word = .seq (.asg (.v 1) (.k (.str []))) (.seq (.forr (.v 2) (.rng (.cons (.bin .add (.k (.int 1)) (.call 16 (.cons (.var 0) (.cons (.k (.int 6)) .nil)))) .nil)) (.seq (.asg (.v 1) (.bin .add (.var 1) (.call 17 (.cons (.var 0) (.cons (.k (.str sigs2)) .nil))))) .nil)) (.seq (.rt (.call 17 (.cons (.var 0) (.cons (.lst (.cons (.bin .add (.sl (.var 1) .no (.itr (.neg (.k (.int 1))))) (.k (.str [120]))) (.cons (.bin .add (.sl (.var 1) .no (.itr (.neg (.k (.int 1))))) (.k (.str [120]))) (.cons (.bin .add (.bin .add (.k (.str [42])) (.var 1)) (.k (.str [42]))) (.cons (.k (.str [116])) (.cons (.k (.str [43])) (.cons (.k (.str [113, 117, 111, 116, 101])) (.cons (.k (.str [102, 117, 110, 99, 116, 105, 111, 110])) (.cons (.k (.str [97, 45, 98])) .nil))))))))) .nil)))) .nil)) := rfl
  rw [hb]
  have l1 : f.length ≤ 1000 := by omega
  have l2 : f.length - 1 + 1 ≤ 16777216 := by omega
  have l2' : min (f.length - 1) f.length + 1 ≤ 16777216 := by omega
  have l3 : 1 + f.length ≤ 16777216 := by omega
  have l4 : 1 + f.length + 1 ≤ 16777216 := by omega
  have l5 : f.length + 1 ≤ 16777216 := by omega
  have l6 : f.length + 1 + 1 ≤ 16777216 := by omega
  simp only [List.append_assoc, List.singleton_append, List.cons_append, List.nil_append] at ex
  simp [bnd, G.ret, rd, opt, eS, seqI, seqL, biop, bInt, bLen, bList, bAbs, binop, big, asg, fits, line, bIsi, isTy, ef, str_pre, l1, l2, l2', l3, l4, l5, l6, ex]
end K00

set_option Elab.async false
set_option linter.all false
set_option maxRecDepth 100000
set_option maxHeartbeats 4000000
namespace K00
open G
theorem rngW_len : ∀ n lo, (rngW lo n).length = n := fun n => by
  induction n with
  | zero => intro lo; rfl
  | succ n ih => intro lo; simp [bnd, G.ret, rd, opt, eS, seqI, seqL, biop, bInt, bLen, bList, bAbs, binop, big, asg, fits, line, bIsi, isTy, rngW, ih]
def tsig (c : Nat) : Bool := c == 10 || (decide (32 ≤ c) && decide (c ≤ 126))
theorem lawtext_ok (d : Nat) (a b : Int) (t : G.ST) : ∃ l a' b', textB l = true ∧ l.length ≤ 20 ∧ callD pk.pg (d + 3) 19 [.ref 0] (cup a b t) = .ok (.str l) (cup a' b' t) := by
  obtain ⟨r, a1, b1, r1, r2, er⟩ := roll (d + 1) 5 a b t (by omega) (by omega)
  have hI : evI pk.pg (callD pk.pg (d + 2)) (.rng (.cons (.call 16 (.cons (.var 0) (.cons (.k (.int 5)) .nil))) .nil)) [some (.ref 0), some (.str []), none] (cup a b t) = .ok (.row (rngW 0 r.toNat)) (cup a1 b1 t) := by
    have q : -small < r ∧ r < small := by unfold small; omega
    simp [bnd, G.ret, rd, opt, eS, seqI, seqL, biop, bInt, bLen, bList, bAbs, binop, big, asg, fits, line, bIsi, isTy, er, rngOf, q]
  obtain ⟨env', s2, ef, ⟨a2, b2, x2, f, hs, he, hf1, hf2⟩⟩ := for_inv (t := .v 2) (b := .seq (.asg (.v 1) (.bin .add (.var 1) (.call 17 (.cons (.var 0) (.cons (.lst (.cons (.k (.str [97])) (.cons (.k (.str [32])) (.cons (.k (.str [34])) (.cons (.k (.str [92])) (.cons (.k (.str [40])) (.cons (.k (.str [39])) (.cons (.k (.str [10])) (.cons (.k (.str [126])) (.cons (.k (.str [90])) (.cons (.k (.str [57])) (.cons (.k (.str [35, 39])) .nil)))))))))))) .nil))))) .nil) hI
    (fun j env s => ∃ a b x2 f, s = cup a b t ∧ env = [some (.ref 0), some (.str f), x2] ∧ f.length ≤ 2 * j ∧ ∀ c ∈ f, tsig c = true) ⟨a1, b1, none, [], rfl, rfl, by simp [bnd, G.ret, rd, opt, eS, seqI, seqL, biop, bInt, bLen, bList, bAbs, binop, big, asg, fits, line, bIsi, isTy], by simp [bnd, G.ret, rd, opt, eS, seqI, seqL, biop, bInt, bLen, bList, bAbs, binop, big, asg, fits, line, bIsi, isTy]⟩
    (fun j x env s hj ⟨a, b, x2, f, hs, he, hf1, hf2⟩ => by
      subst hs; subst he
      have hjl : j < r.toNat := by
        have := (List.getElem?_eq_some_iff.mp hj).1
        rwa [rngW_len] at this
      obtain ⟨i, y, a', b', hy, e⟩ := somL d [.str [97], .str [32], .str [34], .str [92], .str [40], .str [39], .str [10], .str [126], .str [90], .str [57], .str [35, 39]] a b t (by simp [bnd, G.ret, rd, opt, eS, seqI, seqL, biop, bInt, bLen, bList, bAbs, binop, big, asg, fits, line, bIsi, isTy]) (by simp [bnd, G.ret, rd, opt, eS, seqI, seqL, biop, bInt, bLen, bList, bAbs, binop, big, asg, fits, line, bIsi, isTy])
      obtain ⟨g, rfl, g1, g2⟩ : ∃ g, y = .str g ∧ g.length ≤ 2 ∧ ∀ c ∈ g, tsig c = true := by
        have hm := List.mem_of_getElem? hy
        simp only [List.mem_cons, List.not_mem_nil, or_false] at hm
        rcases hm with h | h | h | h | h | h | h | h | h | h | h <;> exact ⟨_, h, by decide, by decide⟩
      have hl : f.length + g.length ≤ 16777216 := by omega
      refine ⟨[some (.ref 0), some (.str f), some x], [some (.ref 0), some (.str (f ++ g)), some x], cup a' b' t, by simp [bnd, G.ret, rd, opt, eS, seqI, seqL, biop, bInt, bLen, bList, bAbs, binop, big, asg, fits, line, bIsi, isTy], by simp [bnd, G.ret, rd, opt, eS, seqI, seqL, biop, bInt, bLen, bList, bAbs, binop, big, asg, fits, line, bIsi, isTy, e, hl], a', b', some x, f ++ g, rfl, rfl, by simp [bnd, G.ret, rd, opt, eS, seqI, seqL, biop, bInt, bLen, bList, bAbs, binop, big, asg, fits, line, bIsi, isTy]; omega, fun y hy => ?_⟩
      rcases List.mem_append.mp hy with h | h
      · exact hf2 y h
      · exact g2 y h)
  subst hs; subst he
  rw [rngW_len] at hf1
  refine ⟨34 :: f, a2, b2, ?_, by simp [bnd, G.ret, rd, opt, eS, seqI, seqL, biop, bInt, bLen, bList, bAbs, binop, big, asg, fits, line, bIsi, isTy]; omega, ?_⟩
  · have e1 : (f.all fun c => c == 10 || (decide (32 ≤ c) && decide (c ≤ 126))) = true := List.all_eq_true.mpr hf2
    have e2 : f.length + 1 ≤ 401 := by omega
    simp only [textB, List.take_succ_cons, List.take_zero, List.drop_succ_cons, List.drop_zero, e1, List.length_cons]
    simp [bnd, G.ret, rd, opt, eS, seqI, seqL, biop, bInt, bLen, bList, bAbs, binop, big, asg, fits, line, bIsi, isTy, e2]
  · rw [call_eq (df := ⟨1, 3, b__law_text⟩) rfl rfl]
    have l3 : 1 + f.length ≤ 16777216 := by omega
    simp only [b__law_text]
    simp [bnd, G.ret, rd, opt, eS, seqI, seqL, biop, bInt, bLen, bList, bAbs, binop, big, asg, fits, line, bIsi, isTy, ef, l3]
theorem intsW_map {α : Type} (l : List α) (f : α → Int) : intsW (l.map fun x => .int (f x)) = some (l.map f) := by
  induction l with
  | nil => rfl
  | cons x l ih => simp [bnd, G.ret, rd, opt, eS, seqI, seqL, biop, bInt, bLen, bList, bAbs, binop, big, asg, fits, line, bIsi, isTy, intsW, ih]
theorem sum_szs : ∀ xs : List W, (xs.map fun x => (szW x : Int)).sum = (szs xs : Int)
  | [] => rfl
  | x :: xs => by simp only [List.map_cons, List.sum_cons, szs, sum_szs xs]; omega
theorem max_dps : ∀ (xs : List W) (m : Int), 0 ≤ m → (xs.map fun x => (dpW x : Int)).foldl (fun a b => if a < b then b else a) m = max m (dps xs : Int)
  | [], m, h => by simp [bnd, G.ret, rd, opt, eS, seqI, seqL, biop, bInt, bLen, bList, bAbs, binop, big, asg, fits, line, bIsi, isTy, dps]; omega
  | x :: xs, m, h => by
    rw [List.map_cons, List.foldl_cons, max_dps xs _ (by split <;> omega)]
    simp only [dps]
    split <;> omega
theorem dps_mem : ∀ {xs : List W} {x : W}, x ∈ xs → dpW x ≤ dps xs
  | y :: ys, x, h => by
    simp only [dps]
    rcases List.mem_cons.mp h with e | e
    · rw [e]; omega
    · have := dps_mem e; omega
theorem szs_mem : ∀ {xs : List W} {x : W}, x ∈ xs → szW x ≤ szs xs
  | y :: ys, x, h => by
    simp only [szs]
    rcases List.mem_cons.mp h with e | e
    · rw [e]; omega
    · have := szs_mem e; omega
def pick (i : Nat) : W → Option W
  | .tup [.int u, .int v] => some (.int (if i = 3 then u else v))
  | _ => none
theorem lawsize_ok (d : Nat) (s : G.ST) : ∀ (n : Nat) (w : W), dpW w ≤ n → plW w = true → szW w ≤ 500000 → callD pk.pg (d + n) 21 [w] s = .ok (.tup [.int (szW w), .int (dpW w)]) s
  | 0, w, h, _, _ => by have := dpW_pos w; omega
  | n + 1, w, h, hp, hs => by
    have ih := lawsize_ok d s n
    rw [show d + (n + 1) = (d + n) + 1 from rfl, call_eq (df := ⟨1, 5, b__law_size⟩) rfl rfl]
    by_cases hT : ∃ xs, w = .tup xs
    · obtain ⟨xs, rfl⟩ := hT
      simp only [dpW, szW, plW] at h hp hs
      have hx : xs.length ≤ 16777216 := by have := szs_len xs; omega
      have c1 : evE pk.pg (callD pk.pg (d + n)) (.lc (.v 2) (.itr (.var 0)) .nil (.call 21 (.cons (.var 2) .nil)) [2]) [some (.tup xs), none, none, none, none] s = .ok (.lst (xs.map fun x => .tup [.int (szW x), .int (dpW x)])) s := by
        have := lc_mapL (P := pk.pg) (call := callD pk.pg (d + n)) (env := [some (.tup xs), none, none, none, none]) (s := s) (s' := s) (t := .v 2) (it := .itr (.var 0)) (e := .call 21 (.cons (.var 2) .nil)) (own := [2]) (l := xs) (f := id) (h := fun x => .tup [.int (szW x), .int (dpW x)]) (by simp [bnd, G.ret, rd, opt, eS, seqI, seqL, biop, bInt, bLen, bList, bAbs, binop, big, asg, fits, line, bIsi, isTy, srcOf]) (fun a b h => h)
          (fun c hc => ⟨_, rfl, by
            have := ih c (by have := dps_mem hc; omega) (pls_mem hp c hc) (by have := szs_mem hc; omega)
            simp [bnd, G.ret, rd, opt, eS, seqI, seqL, biop, bInt, bLen, bList, bAbs, binop, big, asg, fits, line, bIsi, isTy, wipes, this]⟩) hx
        exact this
      have c2 : ∀ (x2 x3 x4 : Option W) (i : Nat) (g : W → Int), (i = 3 ∧ g = fun x => (szW x : Int)) ∨ (i = 4 ∧ g = fun x => (dpW x : Int)) → evE pk.pg (callD pk.pg (d + n)) (.lc (.cons (.v 3) (.cons (.v 4) .nil)) (.itr (.var 1)) .nil (.var i) [3, 4]) [some (.tup xs), some (.lst (xs.map fun x => .tup [.int (szW x), .int (dpW x)])), x2, x3, x4] s = .ok (.lst (xs.map fun x => .int (g x))) s := fun x2 x3 x4 i g hi => by
        have key := lc_row (P := pk.pg) (call := callD pk.pg (d + n)) (env := [some (.tup xs), some (.lst (xs.map fun x => .tup [.int (szW x), .int (dpW x)])), x2, x3, x4]) (s := s) (s' := s) (t := .cons (.v 3) (.cons (.v 4) .nil)) (it := .itr (.var 1)) (ifs := .nil) (e := .var i) (own := [3, 4]) (xs := xs.map fun x => .tup [.int (szW x), .int (dpW x)]) (by simp [bnd, G.ret, rd, opt, eS, seqI, seqL, biop, bInt, bLen, bList, bAbs, binop, big, asg, fits, line, bIsi, isTy, srcOf])
          (pick i) (fun x hx => by
            obtain ⟨c, hc, rfl⟩ := List.mem_map.mp hx
            refine ⟨_, rfl, .inr ⟨.int (if i = 3 then (szW c : Int) else (dpW c : Int)), rfl, by simp [bnd, G.ret, rd, opt, eS, seqI, seqL, biop, bInt, bLen, bList, bAbs, binop, big, asg, fits, line, bIsi, isTy], ?_⟩⟩
            rcases hi with ⟨rfl, rfl⟩ | ⟨rfl, rfl⟩ <;> simp [bnd, G.ret, rd, opt, eS, seqI, seqL, biop, bInt, bLen, bList, bAbs, binop, big, asg, fits, line, bIsi, isTy, wipes]) (by rw [List.length_map]; exact hx)
        rw [key]
        have : (xs.map fun x => W.tup [.int (szW x), .int (dpW x)]).filterMap (pick i) = xs.map fun x => W.int (g x) := by
          rw [List.filterMap_map]
          rw [← List.filterMap_eq_map]
          congr 1
          funext x
          rcases hi with ⟨rfl, rfl⟩ | ⟨rfl, rfl⟩ <;> simp [bnd, G.ret, rd, opt, eS, seqI, seqL, biop, bInt, bLen, bList, bAbs, binop, big, asg, fits, line, bIsi, isTy, pick]
        rw [this]
      have i1 := intsW_map xs fun x => (szW x : Int)
      have i2 := intsW_map xs fun x => (dpW x : Int)
      have hx1 : 1 + xs.length ≤ 16777216 := by have := szs_len xs; omega
      have hm := max_dps xs 0 (by omega)
      have e1 : (1 : Int) + (szs xs : Int) = ((szs xs + 1 : Nat) : Int) := by omega
      have e2 : (1 : Int) + max 0 (dps xs : Int) = ((dps xs + 1 : Nat) : Int) := by omega
      simp only [b__law_size, szW, dpW]
      simp [bnd, G.ret, rd, opt, eS, seqI, seqL, biop, bInt, bLen, bList, bAbs, binop, big, asg, fits, line, bIsi, isTy, c1, c2 _ _ _ 3 (fun x => (szW x : Int)) (.inl ⟨rfl, rfl⟩), c2 _ _ _ 4 (fun x => (dpW x : Int)) (.inr ⟨rfl, rfl⟩), bInts, bTwo, i1, i2, sum_szs, intsW, lmax, hm, hx1]
      omega
    · have hn' : ∀ xs, w ≠ .tup xs := fun xs e => hT ⟨xs, e⟩
      have hiT := isT_of (plain_of hp).1 hn'
      have hs1 : szW w = 1 := by cases w <;> first | rfl | exact (hn' _ rfl).elim
      have hd1 : dpW w = 1 := by cases w <;> first | rfl | exact (hn' _ rfl).elim
      rw [hs1, hd1]
      have c2 : ∀ (x2 x3 x4 : Option W) (i : Nat), evE pk.pg (callD pk.pg (d + n)) (.lc (.cons (.v 3) (.cons (.v 4) .nil)) (.itr (.var 1)) .nil (.var i) [3, 4]) [some w, some (.lst []), x2, x3, x4] s = .ok (.lst []) s := fun x2 x3 x4 i => by
        have key := lc_row (P := pk.pg) (call := callD pk.pg (d + n)) (env := [some w, some (.lst []), x2, x3, x4]) (s := s) (s' := s) (t := .cons (.v 3) (.cons (.v 4) .nil)) (it := .itr (.var 1)) (ifs := .nil) (e := .var i) (own := [3, 4]) (xs := []) (by simp [bnd, G.ret, rd, opt, eS, seqI, seqL, biop, bInt, bLen, bList, bAbs, binop, big, asg, fits, line, bIsi, isTy, srcOf])
          (fun _ => none) (fun x hx => by cases hx) (by simp [bnd, G.ret, rd, opt, eS, seqI, seqL, biop, bInt, bLen, bList, bAbs, binop, big, asg, fits, line, bIsi, isTy])
        rw [key]; rfl
      simp only [b__law_size]
      simp [bnd, G.ret, rd, opt, eS, seqI, seqL, biop, bInt, bLen, bList, bAbs, binop, big, asg, fits, line, bIsi, isTy, -isTy, hiT, c2, bInts, bTwo, intsW, lmax]
end K00

set_option Elab.async false
set_option linter.all false
set_option maxRecDepth 100000
set_option maxHeartbeats 4000000
namespace K00
open G
def bnd4 : Nat → Nat
  | 0 => 1
  | n + 1 => 1 + 4 * bnd4 n
theorem bnd4_pos : ∀ n, 1 ≤ bnd4 n
  | 0 => Nat.le_refl _
  | n + 1 => by simp only [bnd4]; omega
def Good (n : Nat) (w : W) : Prop := gdW w = true ∧ plW w = true ∧ dpW w ≤ n + 1 ∧ szW w ≤ bnd4 n
theorem good_atom {n : Nat} {w : W} (h1 : gdW w = true) (h2 : plW w = true) (h3 : szW w = 1) (h4 : dpW w = 1) : Good n w := ⟨h1, h2, by omega, by have := bnd4_pos n; omega⟩
theorem good_int {n : Nat} {i : Int} (h1 : -1000000000000 ≤ i) (h2 : i ≤ 1000000000000) : Good n (.int i) := good_atom (by simp [bnd, G.ret, rd, opt, eS, seqI, seqL, biop, bInt, bLen, bList, bAbs, binop, big, asg, fits, line, bIsi, isTy, bTuple, gdW, atB, h1, h2]) rfl rfl rfl
theorem good_str {n : Nat} {l : List Nat} (h : wordB l = true ∨ textB l = true) (hl : l.length ≤ 20) : Good n (.str l) := good_atom (by simp only [gdW, atB]; rcases h with h | h <;> simp [bnd, G.ret, rd, opt, eS, seqI, seqL, biop, bInt, bLen, bList, bAbs, binop, big, asg, fits, line, bIsi, isTy, bTuple, h]) (by simp [bnd, G.ret, rd, opt, eS, seqI, seqL, biop, bInt, bLen, bList, bAbs, binop, big, asg, fits, line, bIsi, isTy, bTuple, plW, plain, okLen]; omega) rfl rfl
theorem gds_all : ∀ {xs : List W}, (∀ x ∈ xs, gdW x = true) → gds xs = true
  | [], _ => rfl
  | x :: xs, h => by simp only [gds, h x List.mem_cons_self, gds_all fun y hy => h y (List.mem_cons_of_mem x hy), Bool.and_self]
theorem pls_all : ∀ {xs : List W}, (∀ x ∈ xs, plW x = true) → pls xs = true
  | [], _ => rfl
  | x :: xs, h => by simp only [pls, h x List.mem_cons_self, pls_all fun y hy => h y (List.mem_cons_of_mem x hy), Bool.and_self]
theorem dps_all {n : Nat} : ∀ {xs : List W}, (∀ x ∈ xs, dpW x ≤ n) → dps xs ≤ n
  | [], _ => Nat.zero_le _
  | x :: xs, h => by
    have := h x List.mem_cons_self
    have := dps_all fun y hy => h y (List.mem_cons_of_mem x hy)
    simp only [dps]; omega
theorem szs_all {n : Nat} : ∀ {xs : List W}, (∀ x ∈ xs, szW x ≤ n) → szs xs ≤ xs.length * n
  | [], _ => Nat.zero_le _
  | x :: xs, h => by
    have := h x List.mem_cons_self
    have := szs_all fun y hy => h y (List.mem_cons_of_mem x hy)
    simp only [szs, List.length_cons, Nat.succ_mul]; omega
theorem good_tup {n : Nat} {xs : List W} (h : ∀ x ∈ xs, Good n x) (hl : xs.length ≤ 4) : Good (n + 1) (.tup xs) := by
  refine ⟨?_, ?_, ?_, ?_⟩
  · simp only [gdW]; exact gds_all fun x hx => (h x hx).1
  · simp only [plW]; exact pls_all fun x hx => (h x hx).2.1
  · simp only [dpW]; have := dps_all fun x hx => (h x hx).2.2.1; omega
  · simp only [szW, bnd4]
    have := szs_all fun x hx => (h x hx).2.2.2
    have : xs.length * bnd4 n ≤ 4 * bnd4 n := Nat.mul_le_mul_right _ hl
    omega
def dRest : G.S := match b__law_datum with
  | .seq _ r => r
  | _ => .nil
theorem d_low (D : Nat) (m : Nat) (n r : Int) (x3 : Option W) (a b : Int) (t : G.ST) (r0 : 0 ≤ r) (r5 : r < 5) : ∃ w env' a' b', Good m w ∧ evS pk.pg (callD pk.pg (D + 3)) dRest [some (.ref 0), some (.int n), some (.int r), x3] (cup a b t) = .ok (.rt w) env' (cup a' b' t) := by
  by_cases h2 : r < 2
  · obtain ⟨y1, a1, b1, p1, q1, e1⟩ := roll (D + 2) 10 a b t (by omega) (by omega)
    obtain ⟨y2, a2, b2, p2, q2, e2⟩ := roll (D + 2) 2000 a1 b1 t (by omega) (by omega)
    obtain ⟨y3, a3, b3, p3, q3, e3⟩ := roll (D + 2) 1000000000000 a2 b2 t (by omega) (by omega)
    obtain ⟨i, x, a4, b4, hx, e4⟩ := somL (D + 1) [.int y1, .int (-y2), .int 1000000000000, .int (-1000000000000), .int y3] a3 b3 t (by simp [bnd, G.ret, rd, opt, eS, seqI, seqL, biop, bInt, bLen, bList, bAbs, binop, big, asg, fits, line, bIsi, isTy, bTuple]) (by simp [bnd, G.ret, rd, opt, eS, seqI, seqL, biop, bInt, bLen, bList, bAbs, binop, big, asg, fits, line, bIsi, isTy, bTuple])
    refine ⟨x, [some (.ref 0), some (.int n), some (.int r), x3], a4, b4, ?_, ?_⟩
    · have hm := List.mem_of_getElem? hx
      simp only [List.mem_cons, List.not_mem_nil, or_false] at hm
      rcases hm with h | h | h | h | h <;> rw [h] <;> exact good_int (by omega) (by omega)
    · simp only [dRest, b__law_datum]
      simp [bnd, G.ret, rd, opt, eS, seqI, seqL, biop, bInt, bLen, bList, bAbs, binop, big, asg, fits, line, bIsi, isTy, bTuple, lt_int, h2, e1, e2, e3, e4]
  by_cases h4 : r < 4
  · obtain ⟨y1, a1, b1, p1, q1, e1⟩ := roll (D + 2) 3 a b t (by omega) (by omega)
    by_cases hy : y1 = 0
    · obtain ⟨l, a2, b2, w1, w2, e2⟩ := lawtext_ok D a1 b1 t
      refine ⟨.str l, [some (.ref 0), some (.int n), some (.int r), x3], a2, b2, good_str (.inr w1) w2, ?_⟩
      subst hy
      simp only [dRest, b__law_datum]
      simp [bnd, G.ret, rd, opt, eS, seqI, seqL, biop, bInt, bLen, bList, bAbs, binop, big, asg, fits, line, bIsi, isTy, bTuple, lt_int, eq_int, h2, h4, e1, e2]
    · obtain ⟨l, a2, b2, w1, w2, e2⟩ := lawword_ok D a1 b1 t
      refine ⟨.str l, [some (.ref 0), some (.int n), some (.int r), x3], a2, b2, good_str (.inl w1) w2, ?_⟩
      have hy' : (y1 == 0) = false := by simpa [bnd, G.ret, rd, opt, eS, seqI, seqL, biop, bInt, bLen, bList, bAbs, binop, big, asg, fits, line, bIsi, isTy, bTuple] using hy
      simp only [dRest, b__law_datum]
      simp [bnd, G.ret, rd, opt, eS, seqI, seqL, biop, bInt, bLen, bList, bAbs, binop, big, asg, fits, line, bIsi, isTy, bTuple, lt_int, eq_int, h2, h4, e1, e2, hy']
  · have h5 : r = 4 := by omega
    refine ⟨.tup [], [some (.ref 0), some (.int n), some (.int r), x3], a, b, ⟨rfl, rfl, by simp [bnd, G.ret, rd, opt, eS, seqI, seqL, biop, bInt, bLen, bList, bAbs, binop, big, asg, fits, line, bIsi, isTy, bTuple, dpW, dps], by have := bnd4_pos m; simp [bnd, G.ret, rd, opt, eS, seqI, seqL, biop, bInt, bLen, bList, bAbs, binop, big, asg, fits, line, bIsi, isTy, bTuple, szW, szs]; omega⟩, ?_⟩
    subst h5
    simp only [dRest, b__law_datum]
    simp [bnd, G.ret, rd, opt, eS, seqI, seqL, biop, bInt, bLen, bList, bAbs, binop, big, asg, fits, line, bIsi, isTy, bTuple, lt_int, eq_int]
theorem datum_split {D : Nat} {n : Int} {s s' : G.ST} {w : W} {env' : Env} {r : Int} {s1 : G.ST} (h1 : callD pk.pg D 16 [.ref 0, .int (if 0 < n then 9 else 5)] s = .ok (.int r) s1) (h2 : evS pk.pg (callD pk.pg D) dRest [some (.ref 0), some (.int n), some (.int r), none] s1 = .ok (.rt w) env' s') : callD pk.pg (D + 1) 20 [.ref 0, .int n] s = .ok w s' := by
  rw [call_eq (df := ⟨2, 4, b__law_datum⟩) rfl rfl]
  have hb : b__law_datum = .seq (.asg (.v 2) (.call 16 (.cons (.var 0) (.cons (.ife (.cmp .gt (.var 1) (.k (.int 0))) (.k (.int 9)) (.k (.int 5))) .nil)))) dRest := rfl
  rw [hb]
  by_cases hn : 0 < n
  · rw [if_pos hn] at h1; simp [bnd, G.ret, rd, opt, eS, seqI, seqL, biop, bInt, bLen, bList, bAbs, binop, big, asg, fits, line, bIsi, isTy, bTuple, gt_int, hn, h1, h2]
  · rw [if_neg hn] at h1; simp [bnd, G.ret, rd, opt, eS, seqI, seqL, biop, bInt, bLen, bList, bAbs, binop, big, asg, fits, line, bIsi, isTy, bTuple, gt_int, hn, h1, h2]
theorem lawdatum_ok (d : Nat) (t : G.ST) : ∀ (n : Nat) (a b : Int), ∃ w a' b', Good n w ∧ callD pk.pg (d + n + 4) 20 [.ref 0, .int n] (cup a b t) = .ok w (cup a' b' t) := by
  intro n
  induction n with
  | zero =>
    intro a b
    obtain ⟨r, a1, b1, r1, r2, er⟩ := roll (d + 2) 5 a b t (by omega) (by omega)
    obtain ⟨w, env', a2, b2, g, e⟩ := d_low d 0 0 r none a1 b1 t r1 r2
    exact ⟨w, a2, b2, g, datum_split (D := d + 3) (n := 0) er e⟩
  | succ n ih =>
    intro a b
    obtain ⟨r, a1, b1, r1, r2, er⟩ := roll (d + n + 3) 9 a b t (by omega) (by omega)
    have hD : d + (n + 1) + 4 = (d + n + 4) + 1 := by omega
    have hn : ((n + 1 : Nat) : Int) = (n : Int) + 1 := by omega
    have hif : (if (0 : Int) < (n : Int) + 1 then (9 : Int) else 5) = 9 := if_pos (by omega)
    rw [hD, hn]
    by_cases h5 : r < 5
    · obtain ⟨w, env', a2, b2, g, e⟩ := d_low (d + n + 1) (n + 1) ((n : Int) + 1) r none a1 b1 t r1 h5
      exact ⟨w, a2, b2, g, datum_split (D := d + n + 4) (n := (n : Int) + 1) (by rw [hif]; exact er) e⟩
    have n2 : ¬ r < 2 := by omega
    have n4 : ¬ r < 4 := by omega
    have n4' : (r == 4) = false := by simpa [bnd, G.ret, rd, opt, eS, seqI, seqL, biop, bInt, bLen, bList, bAbs, binop, big, asg, fits, line, bIsi, isTy, bTuple] using show r ≠ 4 by omega
    by_cases h6 : r = 5
    · obtain ⟨i, x, a2, b2, hx, ex⟩ := somL (d + n + 2) [.str [113, 117, 111, 116, 101], .str [102, 117, 110, 99, 116, 105, 111, 110]] a1 b1 t (by simp [bnd, G.ret, rd, opt, eS, seqI, seqL, biop, bInt, bLen, bList, bAbs, binop, big, asg, fits, line, bIsi, isTy, bTuple]) (by simp [bnd, G.ret, rd, opt, eS, seqI, seqL, biop, bInt, bLen, bList, bAbs, binop, big, asg, fits, line, bIsi, isTy, bTuple])
      obtain ⟨w, a3, b3, g, e⟩ := ih a2 b2
      have gx : Good n x := by
        have hm := List.mem_of_getElem? hx
        simp only [List.mem_cons, List.not_mem_nil, or_false] at hm
        rcases hm with h | h <;> rw [h] <;> exact good_str (.inl (by decide)) (by decide)
      refine ⟨.tup [x, w], a3, b3, good_tup (by intro y hy; simp only [List.mem_cons, List.not_mem_nil, or_false] at hy; rcases hy with rfl | rfl <;> assumption) (by simp [bnd, G.ret, rd, opt, eS, seqI, seqL, biop, bInt, bLen, bList, bAbs, binop, big, asg, fits, line, bIsi, isTy, bTuple]), datum_split (D := d + n + 4) (n := (n : Int) + 1) (r := r) (s1 := cup a1 b1 t) (env' := [some (.ref 0), some (.int ((n : Int) + 1)), some (.int r), none]) (by rw [hif]; exact er) ?_⟩
      subst h6
      simp only [dRest, b__law_datum]
      simp [bnd, G.ret, rd, opt, eS, seqI, seqL, biop, bInt, bLen, bList, bAbs, binop, big, asg, fits, line, bIsi, isTy, bTuple, lt_int, eq_int, ex, e]
    · have n5' : (r == 5) = false := by simpa [bnd, G.ret, rd, opt, eS, seqI, seqL, biop, bInt, bLen, bList, bAbs, binop, big, asg, fits, line, bIsi, isTy, bTuple] using h6
      obtain ⟨m, a2, b2, m1, m2, em⟩ := roll (d + n + 3) 5 a1 b1 t (by omega) (by omega)
      have q : -small < m ∧ m < small := by unfold small; omega
      obtain ⟨ys, s2, el, ⟨a3, b3, hs, hg, hl⟩⟩ := lc_inv (P := pk.pg) (call := callD pk.pg (d + n + 4)) (env := [some (.ref 0), some (.int ((n : Int) + 1)), some (.int r), none]) (s := cup a1 b1 t) (t := .v 3) (it := .rng (.cons (.call 16 (.cons (.var 0) (.cons (.k (.int 5)) .nil))) .nil)) (ifs := .nil) (e := .call 20 (.cons (.var 0) (.cons (.bin .sub (.var 1) (.k (.int 1))) .nil))) (own := [3]) (xs := rngW 0 m.toNat) (s' := cup a2 b2 t) (by simp [bnd, G.ret, rd, opt, eS, seqI, seqL, biop, bInt, bLen, bList, bAbs, binop, big, asg, fits, line, bIsi, isTy, bTuple, em, rngOf, q])
        (fun j acc s => ∃ a b, s = cup a b t ∧ (∀ x ∈ acc, Good n x) ∧ acc.length ≤ j) ⟨a2, b2, rfl, by simp [bnd, G.ret, rd, opt, eS, seqI, seqL, biop, bInt, bLen, bList, bAbs, binop, big, asg, fits, line, bIsi, isTy, bTuple], by simp [bnd, G.ret, rd, opt, eS, seqI, seqL, biop, bInt, bLen, bList, bAbs, binop, big, asg, fits, line, bIsi, isTy, bTuple]⟩
        (fun j x acc s hj ⟨a, b, hs, hg, hl⟩ => by
          subst hs
          obtain ⟨w, a', b', g, e⟩ := ih a b
          refine ⟨[some (.ref 0), some (.int ((n : Int) + 1)), some (.int r), some x], by simp [bnd, G.ret, rd, opt, eS, seqI, seqL, biop, bInt, bLen, bList, bAbs, binop, big, asg, fits, line, bIsi, isTy, bTuple, wipes], .inr ⟨cup a b t, w, cup a' b' t, by simp [bnd, G.ret, rd, opt, eS, seqI, seqL, biop, bInt, bLen, bList, bAbs, binop, big, asg, fits, line, bIsi, isTy, bTuple], by simp [bnd, G.ret, rd, opt, eS, seqI, seqL, biop, bInt, bLen, bList, bAbs, binop, big, asg, fits, line, bIsi, isTy, bTuple, e], a', b', rfl, fun y hy => ?_, by simp [bnd, G.ret, rd, opt, eS, seqI, seqL, biop, bInt, bLen, bList, bAbs, binop, big, asg, fits, line, bIsi, isTy, bTuple]; omega⟩⟩
          rcases List.mem_append.mp hy with h | h
          · exact hg y h
          · rw [List.mem_singleton.mp h]; exact g)
        (fun ys s ⟨a, b, _, _, hl⟩ => by rw [rngW_len] at hl; unfold line; omega)
      rw [rngW_len] at hl
      subst hs
      refine ⟨.tup ys, a3, b3, good_tup hg (by omega), datum_split (D := d + n + 4) (n := (n : Int) + 1) (r := r) (s1 := cup a1 b1 t) (env' := [some (.ref 0), some (.int ((n : Int) + 1)), some (.int r), none]) (by rw [hif]; exact er) ?_⟩
      simp only [dRest, b__law_datum]
      simp [bnd, G.ret, rd, opt, eS, seqI, seqL, biop, bInt, bLen, bList, bAbs, binop, big, asg, fits, line, bIsi, isTy, bTuple, lt_int, eq_int, n2, n4, n4', n5', el]
end K00

set_option Elab.async false
set_option linter.all false
set_option maxRecDepth 100000
set_option maxHeartbeats 4000000
namespace K00
open G
theorem eq_tup0 (xs : List W) (s : G.ST) : cmpop .eq (.tup xs) (.tup []) s = some xs.isEmpty := by
  cases xs with
  | nil => rfl
  | cons x xs =>
    have e1 : eqOk 64 (.tup (x :: xs)) (.tup []) = true := by rw [eqOk]; rfl
    have e2 : weq (.tup (x :: xs)) (.tup []) = false := rfl
    simp [bnd, G.ret, rd, opt, eS, seqI, seqL, biop, bInt, bLen, bList, bAbs, binop, big, asg, fits, line, bIsi, isTy, bTuple, cmpop, wEq, deref, e1, e2]
theorem gds_app : ∀ a b : List W, gds (a ++ b) = (gds a && gds b)
  | [], b => by simp [bnd, G.ret, rd, opt, eS, seqI, seqL, biop, bInt, bLen, bList, bAbs, binop, big, asg, fits, line, bIsi, isTy, bTuple, gds]
  | x :: a, b => by simp only [List.cons_append, gds, gds_app a b, Bool.and_assoc]
theorem pls_app : ∀ a b : List W, pls (a ++ b) = (pls a && pls b)
  | [], b => by simp [bnd, G.ret, rd, opt, eS, seqI, seqL, biop, bInt, bLen, bList, bAbs, binop, big, asg, fits, line, bIsi, isTy, bTuple, pls]
  | x :: a, b => by simp only [List.cons_append, pls, pls_app a b, Bool.and_assoc]
theorem szs_app : ∀ a b : List W, szs (a ++ b) = szs a + szs b
  | [], b => by simp [bnd, G.ret, rd, opt, eS, seqI, seqL, biop, bInt, bLen, bList, bAbs, binop, big, asg, fits, line, bIsi, isTy, bTuple, szs]
  | x :: a, b => by simp only [List.cons_append, szs, szs_app a b]; omega
theorem split_at {xs : List W} {i : Nat} (h : i < xs.length) : xs = xs.take i ++ ([xs[i]] ++ xs.drop (i + 1)) := by
  rw [List.singleton_append, ← List.drop_eq_getElem_cons h, List.take_append_drop]
def Bad (w w' : W) : Prop := gdW w' = false ∧ plW w' = true ∧ szW w' ≤ szW w
def things (T : Int) (w : W) : List W := [.non, .bl true, .str [], .str [110, 105, 108], .str [65], .str [45, 53], .int (T + 1), .int (0 - T - 1), .lst [w], .str [97, 32, 98], .str [120, 120, 120, 120, 120, 120, 120, 120, 120, 120, 120, 120, 120, 120, 120, 120, 120, 120, 120, 120, 120]]
theorem bad_str {w0 : W} {l : List Nat} (h : (wordB l || textB l) = false) (hl : l.length ≤ 21) : Bad w0 (.str l) := by
  have := szW_pos w0
  exact ⟨by simp only [gdW, atB]; exact h, by simp [bnd, G.ret, rd, opt, eS, seqI, seqL, biop, bInt, bLen, bList, bAbs, binop, big, asg, fits, line, bIsi, isTy, bTuple, plW, plain, okLen]; omega, by simp only [szW]; omega⟩
theorem bad_int {w0 : W} {i : Int} (h : i < -1000000000000 ∨ 1000000000000 < i) : Bad w0 (.int i) := by
  have := szW_pos w0
  refine ⟨?_, rfl, by simp only [szW]; omega⟩
  simp only [gdW, atB]
  rcases h with h | h
  · rw [decide_eq_false (by omega)]; rfl
  · rw [decide_eq_false (p := i ≤ 1000000000000) (by omega), Bool.and_false]
theorem bad_things (T : Int) (hT : T = 1000000000000) (w x w0 : W) (h : x ∈ things T w) : Bad w0 x := by
  have := szW_pos w0
  simp only [things, List.mem_cons, List.not_mem_nil, or_false] at h
  rcases h with h | h | h | h | h | h | h | h | h | h | h <;> rw [h]
  · exact ⟨rfl, rfl, by simp only [szW]; omega⟩
  · exact ⟨rfl, rfl, by simp only [szW]; omega⟩
  · exact bad_str (by decide +kernel) (by decide)
  · exact bad_str (by decide +kernel) (by decide)
  · exact bad_str (by decide +kernel) (by decide)
  · exact bad_str (by decide +kernel) (by decide)
  · exact bad_int (by omega)
  · exact bad_int (by omega)
  · exact ⟨rfl, rfl, by simp only [szW]; omega⟩
  · exact bad_str (by decide +kernel) (by decide)
  · exact bad_str (by decide +kernel) (by decide)
def spFirst : G.S := match b__law_spoilt with
  | .seq (.ife _ a _) _ => a
  | _ => .nil
theorem x21 (s : G.ST) : binop .mul (.str [120]) (.int 21) s = some (.str [120, 120, 120, 120, 120, 120, 120, 120, 120, 120, 120, 120, 120, 120, 120, 120, 120, 120, 120, 120, 120]) := by
  have e : rep 21 [120] = [120, 120, 120, 120, 120, 120, 120, 120, 120, 120, 120, 120, 120, 120, 120, 120, 120, 120, 120, 120, 120] := by decide +kernel
  have e2 : (21 : Int).toNat = 21 := rfl
  simp only [G.binop, e2, e]
  rw [if_pos (by simp [bnd, G.ret, rd, opt, eS, seqI, seqL, biop, bInt, bLen, bList, bAbs, binop, big, asg, fits, line, bIsi, isTy, bTuple, line])]
theorem p12 (s : G.ST) : binop .pow (.int 10) (.int 12) s = some (.int 1000000000000) := by simp [bnd, G.ret, rd, opt, eS, seqI, seqL, biop, bInt, bLen, bList, bAbs, binop, big, asg, fits, line, bIsi, isTy, bTuple]
theorem b_add (i j : Int) (s : G.ST) : binop .add (.int i) (.int j) s = some (.int (i + j)) := rfl
theorem b_sub (i j : Int) (s : G.ST) : binop .sub (.int i) (.int j) s = some (.int (i - j)) := rfl
section
variable {P : Pg} {call : Nat → List W → M W} {env : Env} {s : G.ST}
theorem ev21 : evE P call (.bin .mul (.k (.str [120])) (.k (.int 21))) env s = .ok (.str [120, 120, 120, 120, 120, 120, 120, 120, 120, 120, 120, 120, 120, 120, 120, 120, 120, 120, 120, 120, 120]) s := by
  simp only [xE_bin, xE_k, bnd, G.ret, rd, x21]
theorem ev_bin {op : Bop} {e1 e2 : E} {x y w : W} {s1 s2 : G.ST} (h1 : evE P call e1 env s = .ok x s1) (h2 : evE P call e2 env s1 = .ok y s2) (h3 : binop op x y s2 = some w) : evE P call (.bin op e1 e2) env s = .ok w s2 := by
  have e : ∀ {α β : Type} (m : M α) (f : α → M β) (s s' : G.ST) (a : α), m s = .ok a s' → G.bnd m f s = f a s' := fun m f s s' a h => by unfold G.bnd; rw [h]
  rw [xE_bin, e _ _ _ _ _ h1, e _ _ _ _ _ h2]
  unfold G.rd
  rw [h3]
theorem ev_cons {a b : E} {x : W} {xs : List W} {s1 s2 : G.ST} (h1 : evE P call a env s = .ok x s1) (h2 : evA P call b env s1 = .ok xs s2) : evA P call (.cons a b) env s = .ok (x :: xs) s2 := by
  have e : ∀ {α β : Type} (m : M α) (f : α → M β) (s s' : G.ST) (a : α), m s = .ok a s' → G.bnd m f s = f a s' := fun m f s s' a h => by unfold G.bnd; rw [h]
  rw [xA_cons, e _ _ _ _ _ h1, e _ _ _ _ _ h2]
  rfl
theorem ev_nil : evA P call .nil env s = .ok [] s := by rw [xA_nil]; rfl
theorem ev_lst {l : E} {xs : List W} {s1 : G.ST} (h : evA P call l env s = .ok xs s1) (hl : xs.length ≤ line) : evE P call (.lst l) env s = .ok (.lst xs) s1 := by
  have e : ∀ {α β : Type} (m : M α) (f : α → M β) (s s' : G.ST) (a : α), m s = .ok a s' → G.bnd m f s = f a s' := fun m f s s' a h => by unfold G.bnd; rw [h]
  have e2 : G.fits (evA P call l env) s = .ok xs s1 := by
    unfold G.fits
    rw [e _ _ _ _ _ h, if_pos hl]; rfl
  rw [xE_lst, e _ _ _ _ _ e2]; rfl
theorem ev_v {i : Nat} {w : W} (h : env[i]? = some (some w)) : evE P call (.var i) env s = .ok w s := by rw [xE_var, h]; rfl
theorem ev_k {w : W} : evE P call (.k w) env s = .ok w s := by rw [xE_k]; rfl
theorem evP1 {T : Int} (h : ∀ s, binop .pow (.int 10) (.int 12) s = some (.int T)) : evE P call (.bin .add (.bin .pow (.k (.int 10)) (.k (.int 12))) (.k (.int 1))) env s = .ok (.int (T + 1)) s :=
  ev_bin (ev_bin ev_k ev_k (h s)) ev_k (b_add T 1 s)
theorem evN1 {T : Int} (h : ∀ s, binop .pow (.int 10) (.int 12) s = some (.int T)) : evE P call (.bin .sub (.bin .sub (.k (.int 0)) (.bin .pow (.k (.int 10)) (.k (.int 12)))) (.k (.int 1))) env s = .ok (.int (0 - T - 1)) s :=
  ev_bin (ev_bin ev_k (ev_bin ev_k ev_k (h s)) (b_sub 0 T s)) ev_k (b_sub (0 - T) 1 s)
end
theorem sp_first (D : Nat) (w : W) (x2 : Option W) (a b : Int) (t : G.ST) : ∃ x a' b', Bad w x ∧ evS pk.pg (callD pk.pg (D + 2)) spFirst [some (.ref 0), some w, x2] (cup a b t) = .ok (.rt x) [some (.ref 0), some w, x2] (cup a' b' t) := by
  obtain ⟨T, hT, hp⟩ : ∃ T : Int, T = 1000000000000 ∧ ∀ s, binop .pow (.int 10) (.int 12) s = some (.int T) := ⟨1000000000000, rfl, p12⟩
  obtain ⟨i, x, a1, b1, hx, ex⟩ := somL D (things T w) a b t (by simp [bnd, G.ret, rd, opt, eS, seqI, seqL, biop, bInt, bLen, bList, bAbs, binop, big, asg, fits, line, bIsi, isTy, bTuple, things]) (by simp [bnd, G.ret, rd, opt, eS, seqI, seqL, biop, bInt, bLen, bList, bAbs, binop, big, asg, fits, line, bIsi, isTy, bTuple, things])
  refine ⟨x, a1, b1, bad_things T hT w x w (List.mem_of_getElem? hx), ?_⟩
  clear hT
  have e1 := evP1 (P := pk.pg) (call := callD pk.pg (D + 2)) (env := [some (.ref 0), some w, x2]) (s := cup a b t) hp
  have e2 := evN1 (P := pk.pg) (call := callD pk.pg (D + 2)) (env := [some (.ref 0), some w, x2]) (s := cup a b t) hp
  have hL := ev_lst (P := pk.pg) (call := callD pk.pg (D + 2)) (env := [some (.ref 0), some w, x2]) (s := cup a b t) (xs := things T w)
    (ev_cons ev_k (ev_cons ev_k (ev_cons ev_k (ev_cons ev_k (ev_cons ev_k (ev_cons ev_k (ev_cons e1 (ev_cons e2 (ev_cons (ev_lst (xs := [w]) (ev_cons (ev_v (i := 1) (w := w) rfl) ev_nil) (by simp [bnd, G.ret, rd, opt, eS, seqI, seqL, biop, bInt, bLen, bList, bAbs, binop, big, asg, fits, line, bIsi, isTy, bTuple])) (ev_cons ev_k (ev_cons ev21 ev_nil))))))))))) (by simp [bnd, G.ret, rd, opt, eS, seqI, seqL, biop, bInt, bLen, bList, bAbs, binop, big, asg, fits, line, bIsi, isTy, bTuple, things])
  simp only [spFirst, b__law_spoilt]
  simp [bnd, G.ret, rd, opt, eS, seqI, seqL, biop, bInt, bLen, bList, bAbs, binop, big, asg, fits, line, bIsi, isTy, bTuple, -xE_lst, hL, ex]
theorem spoilt_ok (d : Nat) (t : G.ST) : ∀ (n : Nat) (w : W) (a b : Int), dpW w ≤ n → plW w = true → szW w ≤ 500000 → ∃ w' a' b', Bad w w' ∧ callD pk.pg (d + n + 3) 23 [.ref 0, w] (cup a b t) = .ok w' (cup a' b' t) := by
  intro n
  induction n with
  | zero => intro w a b h; have := dpW_pos w; omega
  | succ n ih =>
    intro w a b h hp hs
    have hD : d + (n + 1) + 3 = (d + n + 3) + 1 := by omega
    rw [hD]
    have hb : b__law_spoilt = .seq (.ife (.or (.not (.bi .isi (.cons (.var 1) (.cons (.k (.ty "tuple")) .nil)))) (.or (.cmp .eq (.var 1) (.tup .nil)) (.cmp .eq (.call 16 (.cons (.var 0) (.cons (.k (.int 3)) .nil))) (.k (.int 0))))) spFirst .nil) (.seq (.asg (.v 2) (.call 16 (.cons (.var 0) (.cons (.bi .len (.cons (.var 1) .nil)) .nil)))) (.seq (.rt (.bin .add (.bin .add (.sl (.var 1) .no (.itr (.var 2))) (.tup (.cons (.call 23 (.cons (.var 0) (.cons (.ix (.var 1) (.var 2)) .nil))) .nil))) (.sl (.var 1) (.itr (.bin .add (.var 2) (.k (.int 1)))) .no))) .nil)) := rfl
    by_cases hT : ∃ xs, w = .tup xs
    · obtain ⟨xs, rfl⟩ := hT
      by_cases h0 : xs = []
      · subst h0
        obtain ⟨x, a', b', g, e⟩ := sp_first (d + n + 1) (.tup []) none a b t
        refine ⟨x, a', b', g, ?_⟩
        rw [call_eq (df := ⟨2, 3, b__law_spoilt⟩) rfl rfl, hb]
        simp [bnd, G.ret, rd, opt, eS, seqI, seqL, biop, bInt, bLen, bList, bAbs, binop, big, asg, fits, line, bIsi, isTy, bTuple, eq_tup0, e]
      · have h0' : xs.isEmpty = false := by simpa [bnd, G.ret, rd, opt, eS, seqI, seqL, biop, bInt, bLen, bList, bAbs, binop, big, asg, fits, line, bIsi, isTy, bTuple] using h0
        obtain ⟨r, a1, b1, r1, r2, er⟩ := roll (d + n + 2) 3 a b t (by omega) (by omega)
        by_cases hr : r = 0
        · subst hr
          obtain ⟨x, a', b', g, e⟩ := sp_first (d + n + 1) (.tup xs) none a1 b1 t
          refine ⟨x, a', b', g, ?_⟩
          rw [call_eq (df := ⟨2, 3, b__law_spoilt⟩) rfl rfl, hb]
          simp [bnd, G.ret, rd, opt, eS, seqI, seqL, biop, bInt, bLen, bList, bAbs, binop, big, asg, fits, line, bIsi, isTy, bTuple, eq_tup0, eq_int, h0', er, e]
        · have hr' : (r == 0) = false := by simpa [bnd, G.ret, rd, opt, eS, seqI, seqL, biop, bInt, bLen, bList, bAbs, binop, big, asg, fits, line, bIsi, isTy, bTuple] using hr
          simp only [dpW, plW, szW] at h hp hs
          have hlen := szs_len xs
          have hpos : 0 < xs.length := List.length_pos_iff.mpr h0
          obtain ⟨j, a2, b2, j1, j2, ej⟩ := roll (d + n + 2) xs.length a1 b1 t (by omega) (by omega)
          have hj : j.toNat < xs.length := by omega
          have hm := List.getElem_mem hj
          obtain ⟨w', a3, b3, ⟨g1, g2, g3⟩, e⟩ := ih xs[j.toNat] a2 b2 (by have := dps_mem hm; omega) (pls_mem hp _ hm) (by have := szs_mem hm; omega)
          have hsp := split_at hj
          refine ⟨.tup (xs.take j.toNat ++ [w'] ++ xs.drop (j.toNat + 1)), a3, b3, ⟨?_, ?_, ?_⟩, ?_⟩
          · simp only [gdW, gds_app, gds, g1, Bool.false_and, Bool.and_false]
          · have q := hp
            rw [hsp] at q
            simp only [pls_app, pls, Bool.and_eq_true] at q
            simp only [plW, pls_app, pls, g2, q.1, q.2.2, Bool.and_self]
          · have q := congrArg szs hsp
            simp only [szs_app, szs] at q
            simp only [szW, szs_app, szs]
            omega
          · rw [call_eq (df := ⟨2, 3, b__law_spoilt⟩) rfl rfl, hb]
            have s1 : slice (.tup xs) none (some j) (cup a2 b2 t) = some (.tup (xs.take j.toNat)) := by
              have : min j.toNat xs.length = j.toNat := by omega
              simp [bnd, G.ret, rd, opt, eS, seqI, seqL, biop, bInt, bLen, bList, bAbs, binop, big, asg, fits, line, bIsi, isTy, bTuple, slice, cut, cutIx, this, show ¬ j < 0 by omega]
            have s2 : slice (.tup xs) (some (j + 1)) none (cup a3 b3 t) = some (.tup (xs.drop (j.toNat + 1))) := by
              have e1 : min (j + 1).toNat xs.length = j.toNat + 1 := by omega
              have e2 : cutIx xs.length 0 (some (j + 1)) = j.toNat + 1 := by
                simp only [cutIx]; rw [if_neg (by omega)]; exact e1
              have e3 : cutIx xs.length xs.length none = xs.length := rfl
              simp only [slice, cut, e2, e3]
              rw [List.take_of_length_le (by simp [bnd, G.ret, rd, opt, eS, seqI, seqL, biop, bInt, bLen, bList, bAbs, binop, big, asg, fits, line, bIsi, isTy, bTuple])]
            have s3 : item (.tup xs) (.int j) (cup a2 b2 t) = some xs[j.toNat] := by
              have : ixOf j xs.length = some j.toNat := by simp only [ixOf]; rw [if_pos j1, if_pos j2]
              simp only [item, seqI, Option.bind_some, this, List.getElem?_eq_getElem hj]
            have l1 : min j.toNat xs.length + 1 ≤ 16777216 := by omega
            have l2 : min j.toNat xs.length + (1 + (xs.length - (j.toNat + 1))) ≤ 16777216 := by omega
            have l3 : min j.toNat xs.length + 1 + (xs.length - (j.toNat + 1)) ≤ 16777216 := by omega
            simp [bnd, G.ret, rd, opt, eS, seqI, seqL, biop, bInt, bLen, bList, bAbs, binop, big, asg, fits, line, bIsi, isTy, bTuple, eq_tup0, eq_int, h0', er, hr', ej, s1, s2, s3, e, l1, l2, l3]
    · have hn' : ∀ xs, w ≠ .tup xs := fun xs e => hT ⟨xs, e⟩
      have hiT := isT_of (plain_of hp).1 hn'
      obtain ⟨x, a', b', g, e⟩ := sp_first (d + n + 1) w none a b t
      refine ⟨x, a', b', g, ?_⟩
      rw [call_eq (df := ⟨2, 3, b__law_spoilt⟩) rfl rfl, hb]
      simp [bnd, G.ret, rd, opt, eS, seqI, seqL, biop, bInt, bLen, bList, bAbs, binop, big, asg, fits, line, bIsi, isTy, bTuple, -isTy, hiT, e]
end K00

set_option Elab.async false
set_option linter.all false
set_option maxRecDepth 100000
set_option maxHeartbeats 4000000
namespace K00
open G
theorem isspec_ok (d : Nat) (l : List Nat) (s : G.ST) (hl : l.length ≤ 16777216) : callD pk.pg (d + 6) 12 [.str l] s = .ok (.bl (specB l)) s := by
  rw [call_eq (df := ⟨1, 1, b_is_special⟩) rfl rfl]
  simp [bnd, G.ret, rd, opt, eS, seqI, seqL, biop, bInt, bLen, bList, bAbs, binop, big, asg, fits, line, bIsi, isTy, bTuple, b_is_special, spec_ok d l s hl]
theorem isspec_no (d : Nat) (w : W) (s : G.ST) (h : notStr w = true) : callD pk.pg (d + 6) 12 [w] s = .ok (.bl false) s := by
  rw [call_eq (df := ⟨1, 1, b_is_special⟩) rfl rfl]
  have h1 : callD pk.pg (d + 5) 5 [w] s = .ok (.bl false) s := by
    rw [call_eq (df := ⟨1, 2, b_fits_special⟩) rfl rfl]
    simp [bnd, G.ret, rd, opt, eS, seqI, seqL, biop, bInt, bLen, bList, bAbs, binop, big, asg, fits, line, bIsi, isTy, bTuple, b_fits_special, name_no d w s h]
  simp [bnd, G.ret, rd, opt, eS, seqI, seqL, biop, bInt, bLen, bList, bAbs, binop, big, asg, fits, line, bIsi, isTy, bTuple, b_is_special, h1]
theorem good_okD {n : Nat} (hn : n ≤ 4) {w : W} (h : Good n w) : okD w = true ∧ szW w ≤ 500000 := by
  obtain ⟨h1, h2, h3, h4⟩ := h
  have : bnd4 n ≤ 341 := by
    match n, hn with
    | 0, _ => decide
    | 1, _ => decide
    | 2, _ => decide
    | 3, _ => decide
    | 4, _ => decide
  refine ⟨?_, by omega⟩
  simp only [okD, h1, Bool.true_and, Bool.and_eq_true, decide_eq_true_eq]
  omega
/-- the body of the first loop -/
def lBody1 : G.S := match b_law with
  | .seq _ (.seq (.forr _ _ b) _) => b
  | _ => .nil
theorem told0 : (pk.pg.told[0]?.bind fun r => r[0]?).join = some [100, 97, 116, 117, 109] := rfl
/-- a lambda whose call is refused -/
theorem clo_bad (D : Nat) {l : E} {env : Env} {s : G.ST} (h : evE pk.pg (callD pk.pg D) l env s = .exc 0 [] s) : evE pk.pg (callD pk.pg (D + 2)) (.clo 0 l) env s = .ok (.str [100, 97, 116, 117, 109]) s := by
  rw [xE_clo, callD_more]
  have gate : callD pk.pg (D + 2) pk.pg.defs.length [] s = .ok .non s := by
    have h1 : pk.pg.defs[pk.pg.defs.length]? = none := List.getElem?_eq_none (Nat.le_refl _)
    rw [callD]; simp only [h1, if_true]
  unfold tellM
  have e : G.bnd (callD pk.pg (D + 2) pk.pg.defs.length []) (fun _ => evE pk.pg (callD pk.pg D) l env) s = .exc 0 [] s := by
    unfold G.bnd; rw [gate]; exact h
  rw [e]
  simp only [told0]
theorem ne_tup2 (a b c d : Int) (s : G.ST) : cmpop .ne (.tup [.int a, .int b]) (.tup [.int c, .int d]) s = some (!((a == c) && ((b == d) && true))) := rfl
theorem isnot_bl (a b : Bool) (s : G.ST) : cmpop .isnot (.bl a) (.bl b) s = some (!(a == b)) := rfl
theorem is_bl (a b : Bool) (s : G.ST) : cmpop .is (.bl a) (.bl b) s = some (a == b) := rfl
end K00

set_option Elab.async false
set_option linter.all false
set_option maxRecDepth 100000
set_option maxHeartbeats 4000000
namespace K00
open G
theorem set_last {α : Type} (t : List α) (x y : α) : (t ++ [x]).set t.length y = t ++ [y] := by simp [bnd, G.ret, rd, opt, eS, seqI, seqL, biop, bInt, bLen, bList, bAbs, binop, big, asg, asgs, fits, line, bIsi, isTy, bTuple]
theorem turn1 (a b : Int) (t : G.ST) (v x2 x3 x4 x5 x6 x7 : Option W) (r : List (Option W)) : ∃ a' b' y3 y4 y5 y6 y7 u, evS pk.pg (callD pk.pg 39) lBody1 (v :: some (.ref 0) :: x2 :: x3 :: x4 :: x5 :: x6 :: x7 :: r) (cup a b t) = .ok .nx (v :: some (.ref 0) :: x2 :: some y3 :: some y4 :: some y5 :: some y6 :: some y7 :: r) (cup a' b' (t ++ [u])) := by
  obtain ⟨q, a1, b1, q1, q2, e1⟩ := roll 38 4 a b t (by omega) (by omega)
  obtain ⟨n, hn⟩ : ∃ n : Nat, (n : Int) = 1 + q := ⟨(1 + q).toNat, by omega⟩
  obtain ⟨w, a2, b2, g, e2⟩ := lawdatum_ok (35 - n) t n a1 b1
  rw [show 35 - n + n + 4 = 39 by omega, hn] at e2
  obtain ⟨ho, hs⟩ := good_okD (by omega) g
  obtain ⟨g1, g2, g3, g4⟩ := g
  have e3 := lawsize_ok 34 (cup a2 b2 t) 5 w (by omega) g2 hs
  have e4 := datum_ok 33 w (cup a2 b2 t) g2 hs
  have e5 := size_ok 32 w (cup a2 b2 t) g2 hs
  have e6 := depth_ok 32 w (cup a2 b2 t) g2 hs
  rw [ho] at e4
  rw [if_pos ho] at e5 e6
  obtain ⟨w', a3, b3, ⟨h1, h2, h3⟩, e7⟩ := spoilt_ok 31 t 5 w a2 b2 (by omega) g2 hs
  have hb : okD w' = false := by simp [bnd, G.ret, rd, opt, eS, seqI, seqL, biop, bInt, bLen, bList, bAbs, binop, big, asg, asgs, fits, line, bIsi, isTy, bTuple, okD, h1]
  refine ⟨a3, b3, w, .int (szW w), .int (dpW w), w', .ref (t.length + 1), [.str [100, 97, 116, 117, 109], .str [100, 97, 116, 117, 109]], ?_⟩
  have e8 := fun s => datum_ok 33 w' s h2 (by omega)
  rw [hb] at e8
  have c1 : ∀ env s, env[6]? = some (some w') → evE pk.pg (callD pk.pg 39) (.clo 0 (.call 13 (.cons (.var 6) .nil))) env s = .ok (.str [100, 97, 116, 117, 109]) s := fun env s h => by
    refine clo_bad 37 ?_
    have := size_ok 30 w' s h2 (by omega)
    rw [if_neg (by rw [hb]; simp [bnd, G.ret, rd, opt, eS, seqI, seqL, biop, bInt, bLen, bList, bAbs, binop, big, asg, asgs, fits, line, bIsi, isTy, bTuple])] at this
    simp [bnd, G.ret, rd, opt, eS, seqI, seqL, biop, bInt, bLen, bList, bAbs, binop, big, asg, asgs, fits, line, bIsi, isTy, bTuple, h, this]
  have c2 : ∀ env s, env[6]? = some (some w') → evE pk.pg (callD pk.pg 39) (.clo 0 (.call 14 (.cons (.var 6) .nil))) env s = .ok (.str [100, 97, 116, 117, 109]) s := fun env s h => by
    refine clo_bad 37 ?_
    have := depth_ok 30 w' s h2 (by omega)
    rw [if_neg (by rw [hb]; simp [bnd, G.ret, rd, opt, eS, seqI, seqL, biop, bInt, bLen, bList, bAbs, binop, big, asg, asgs, fits, line, bIsi, isTy, bTuple])] at this
    simp [bnd, G.ret, rd, opt, eS, seqI, seqL, biop, bInt, bLen, bList, bAbs, binop, big, asg, asgs, fits, line, bIsi, isTy, bTuple, h, this]
  have hc : ∀ u s, s[t.length + 1]? = some [.str u, .str u] → cmpop .ne (.ref (t.length + 1)) (.lst [.str u, .str u]) s = some false := fun u s h => by
    simp [bnd, G.ret, rd, opt, eS, seqI, seqL, biop, bInt, bLen, bList, bAbs, binop, big, asg, asgs, fits, line, bIsi, isTy, bTuple, cmpop, wEq, deref, h, eqOk, eqOks, isSc, weq, weqs]
  simp only [lBody1, b_law]
  simp [bnd, G.ret, rd, opt, eS, seqI, seqL, biop, bInt, bLen, bList, bAbs, binop, big, asg, asgs, fits, line, bIsi, isTy, bTuple, -xE_clo, e1, e2, e3, e4, e5, e6, e7, e8, c1, c2, isnot_bl, ne_tup2, mApp, meL, Me.isL, hc, rep]
end K00

set_option Elab.async false
set_option linter.all false
set_option maxRecDepth 100000
set_option maxHeartbeats 4000000
namespace K00
open G
def soB (l : List Nat) : Bool := decide (2 < l.length) && ((l.head? == some 42) && ((l.getLast? == some 42) && !(l.filter fun c => decide (c ∈ within)).isEmpty))
def soE : E := .and (.cmp .gt (.bi .len (.cons (.var 9) .nil)) (.k (.int 2))) (.and (.chain .eq .eq (.ix (.var 9) (.k (.int 0))) (.k (.str [42])) (.ix (.var 9) (.neg (.k (.int 1))))) (.cmp .ne (.lc (.v 20) (.itr (.var 9)) (.cons (.cmp .isin (.var 20) (.k (.str within))) .nil) (.var 20) [20]) (.lst .nil)))
theorem filt_any (l S : List Nat) : (!(l.filter fun c => decide (c ∈ S)).isEmpty) = l.any fun c => decide (c ∈ S) := by
  induction l with
  | nil => rfl
  | cons c l ih =>
    by_cases h : c ∈ S
    · simp [bnd, G.ret, rd, opt, eS, seqI, seqL, biop, bInt, bLen, bList, bAbs, binop, big, asg, asgs, fits, line, bIsi, isTy, bTuple, h]
    · simp [bnd, G.ret, rd, opt, eS, seqI, seqL, biop, bInt, bLen, bList, bAbs, binop, big, asg, asgs, fits, line, bIsi, isTy, bTuple, h] at ih ⊢; simpa [bnd, G.ret, rd, opt, eS, seqI, seqL, biop, bInt, bLen, bList, bAbs, binop, big, asg, asgs, fits, line, bIsi, isTy, bTuple] using ih
theorem spec_so (l : List Nat) : specB l = (soB l && wordB l) := by
  simp only [specB, nameB, soB, filt_any]
  cases e : wordB l with
  | false => simp [bnd, G.ret, rd, opt, eS, seqI, seqL, biop, bInt, bLen, bList, bAbs, binop, big, asg, asgs, fits, line, bIsi, isTy, bTuple]
  | true =>
    simp only [Bool.true_and, Bool.and_true]
    cases l with
    | nil => simp [bnd, G.ret, rd, opt, eS, seqI, seqL, biop, bInt, bLen, bList, bAbs, binop, big, asg, asgs, fits, line, bIsi, isTy, bTuple, wordB, madeB] at e
    | cons c l =>
      by_cases hc : c = 42
      · subst hc
        by_cases hl : ((42 :: l : List Nat).getLast? == some 42) = true
        · by_cases ha : ((42 :: l).any fun c => decide (c ∈ within)) = true
          · have hlen : 2 < (42 :: l).length := by
              match l, hl, ha with
              | [], _, ha => simp [bnd, G.ret, rd, opt, eS, seqI, seqL, biop, bInt, bLen, bList, bAbs, binop, big, asg, asgs, fits, line, bIsi, isTy, bTuple, within] at ha
              | [x], hl, ha =>
                have : x = 42 := by simpa [bnd, G.ret, rd, opt, eS, seqI, seqL, biop, bInt, bLen, bList, bAbs, binop, big, asg, asgs, fits, line, bIsi, isTy, bTuple] using hl
                subst this
                simp [bnd, G.ret, rd, opt, eS, seqI, seqL, biop, bInt, bLen, bList, bAbs, binop, big, asg, asgs, fits, line, bIsi, isTy, bTuple, within] at ha
              | _ :: _ :: _, _, _ => simp [bnd, G.ret, rd, opt, eS, seqI, seqL, biop, bInt, bLen, bList, bAbs, binop, big, asg, asgs, fits, line, bIsi, isTy, bTuple]
            have n1 : ((42 :: l : List Nat) == [116]) = false := by cases l <;> simp [bnd, G.ret, rd, opt, eS, seqI, seqL, biop, bInt, bLen, bList, bAbs, binop, big, asg, asgs, fits, line, bIsi, isTy, bTuple]
            have n2 : ((42 :: l : List Nat).take 1 == [58]) = false := by simp [bnd, G.ret, rd, opt, eS, seqI, seqL, biop, bInt, bLen, bList, bAbs, binop, big, asg, asgs, fits, line, bIsi, isTy, bTuple]
            simp only [hl, ha, n1, n2, decide_eq_true hlen]; rfl
          · rw [Bool.not_eq_true] at ha; rw [ha]; simp [bnd, G.ret, rd, opt, eS, seqI, seqL, biop, bInt, bLen, bList, bAbs, binop, big, asg, asgs, fits, line, bIsi, isTy, bTuple]
        · rw [Bool.not_eq_true] at hl; rw [hl]; simp [bnd, G.ret, rd, opt, eS, seqI, seqL, biop, bInt, bLen, bList, bAbs, binop, big, asg, asgs, fits, line, bIsi, isTy, bTuple]
      · have : ((c :: l : List Nat).head? == some 42) = false := by simpa [bnd, G.ret, rd, opt, eS, seqI, seqL, biop, bInt, bLen, bList, bAbs, binop, big, asg, asgs, fits, line, bIsi, isTy, bTuple] using hc
        rw [this]; simp [bnd, G.ret, rd, opt, eS, seqI, seqL, biop, bInt, bLen, bList, bAbs, binop, big, asg, asgs, fits, line, bIsi, isTy, bTuple]
theorem join1 (cs : List Nat) : joinS [] (cs.map fun c => [c]) = cs := by
  induction cs with
  | nil => rfl
  | cons c cs ih =>
    cases cs with
    | nil => rfl
    | cons d cs => simpa [bnd, G.ret, rd, opt, eS, seqI, seqL, biop, bInt, bLen, bList, bAbs, binop, big, asg, asgs, fits, line, bIsi, isTy, bTuple, joinS] using ih
theorem strsW1 (cs : List Nat) : strsW (cs.map fun c => .str [c]) = some (cs.map fun c => [c]) := by
  induction cs with
  | nil => rfl
  | cons c cs ih => simp [bnd, G.ret, rd, opt, eS, seqI, seqL, biop, bInt, bLen, bList, bAbs, binop, big, asg, asgs, fits, line, bIsi, isTy, bTuple, strsW, ih]
theorem so_ok (D : Nat) (l : List Nat) (env : Env) (s : G.ST) (h9 : env[9]? = some (some (.str l))) (h20 : 20 < env.length) (hl : l.length ≤ 1000) : evE pk.pg (callD pk.pg D) soE env s = .ok (.bl (soB l)) s := by
  have hm : evE pk.pg (callD pk.pg D) (.lc (.v 20) (.itr (.var 9)) (.cons (.cmp .isin (.var 20) (.k (.str within))) .nil) (.var 20) [20]) env s = .ok (.lst ((l.filter fun c => decide (c ∈ within)).map fun c => .str [c])) s := by
    refine lc_filtL (f := fun c => .str [c]) (by simp [bnd, G.ret, rd, opt, eS, seqI, seqL, biop, bInt, bLen, bList, bAbs, binop, big, asg, asgs, fits, line, bIsi, isTy, bTuple, srcOf, h9]) str1_inj (fun c _ => ⟨(env.set 20 none).set 20 (some (.str [c])), ?_, ?_, fun _ => ?_⟩) (by unfold line; omega)
    · simp [bnd, G.ret, rd, opt, eS, seqI, seqL, biop, bInt, bLen, bList, bAbs, binop, big, asg, asgs, fits, line, bIsi, isTy, bTuple, wipes, h20]
    · cases h : decide (c ∈ within) <;> simp [bnd, G.ret, rd, opt, eS, seqI, seqL, biop, bInt, bLen, bList, bAbs, binop, big, asg, asgs, fits, line, bIsi, isTy, bTuple, cmp_in1, h, h20]
    · simp [bnd, G.ret, rd, opt, eS, seqI, seqL, biop, bInt, bLen, bList, bAbs, binop, big, asg, asgs, fits, line, bIsi, isTy, bTuple, h20]
  have hen : ∀ (xs : List Nat), ((xs.map fun c => W.str [c]).isEmpty) = xs.isEmpty := fun xs => by cases xs <;> rfl
  have l2 : l.length ≤ 16777216 := by omega
  by_cases h1 : 2 < l.length
  · have i1 : (2 : Int) < l.length := by omega
    cases l with
    | nil => simp [bnd, G.ret, rd, opt, eS, seqI, seqL, biop, bInt, bLen, bList, bAbs, binop, big, asg, asgs, fits, line, bIsi, isTy, bTuple] at h1
    | cons c l =>
      have hl' : l.length + 1 ≤ 16777216 := by simpa [bnd, G.ret, rd, opt, eS, seqI, seqL, biop, bInt, bLen, bList, bAbs, binop, big, asg, asgs, fits, line, bIsi, isTy, bTuple] using l2
      have hg : ((c :: l).getLast? == some 42) = ((c :: l).getLast (by simp [bnd, G.ret, rd, opt, eS, seqI, seqL, biop, bInt, bLen, bList, bAbs, binop, big, asg, asgs, fits, line, bIsi, isTy, bTuple]) == 42) := by rw [List.getLast?_eq_some_getLast (by simp [bnd, G.ret, rd, opt, eS, seqI, seqL, biop, bInt, bLen, bList, bAbs, binop, big, asg, asgs, fits, line, bIsi, isTy, bTuple])]; rfl
      have hg1 : ∀ x : Nat, ([x] == [42]) = (x == 42) := fun x => by cases h : (x == 42) <;> simp_all [bnd, G.ret, rd, opt, eS, seqI, seqL, biop, bInt, bLen, bList, bAbs, binop, big, asg, asgs, fits, line, bIsi, isTy, bTuple]
      have hg3 : ∀ x : Nat, ([42] == [x]) = (x == 42) := fun x => by
        by_cases h : x = 42
        · subst h; rfl
        · have h' : ¬ 42 = x := fun e => h e.symm
          have e1 : (x == 42) = false := by simpa [bnd, G.ret, rd, opt, eS, seqI, seqL, biop, bInt, bLen, bList, bAbs, binop, big, asg, asgs, fits, line, bIsi, isTy, bTuple] using h
          rw [e1]; simpa [bnd, G.ret, rd, opt, eS, seqI, seqL, biop, bInt, bLen, bList, bAbs, binop, big, asg, asgs, fits, line, bIsi, isTy, bTuple] using h'
      have hg2 : ((c :: l).head? == some 42) = (c == 42) := rfl
      have i2 : (2 : Int) < (l.length : Int) + 1 := by simpa [bnd, G.ret, rd, opt, eS, seqI, seqL, biop, bInt, bLen, bList, bAbs, binop, big, asg, asgs, fits, line, bIsi, isTy, bTuple] using i1
      simp only [soB, decide_eq_true h1, hg, hg2, Bool.true_and]
      cases e2 : (c == 42) with
      | false => simp [bnd, G.ret, rd, opt, eS, seqI, seqL, biop, bInt, bLen, bList, bAbs, binop, big, asg, asgs, fits, line, bIsi, isTy, bTuple, soE, h9, gt_int, i2, hl', item0, eq_str, hg1, e2]
      | true =>
        cases e3 : ((c :: l).getLast (by simp [bnd, G.ret, rd, opt, eS, seqI, seqL, biop, bInt, bLen, bList, bAbs, binop, big, asg, asgs, fits, line, bIsi, isTy, bTuple]) == 42) with
        | false => simp [bnd, G.ret, rd, opt, eS, seqI, seqL, biop, bInt, bLen, bList, bAbs, binop, big, asg, asgs, fits, line, bIsi, isTy, bTuple, soE, h9, gt_int, i2, hl', item0, itemL, eq_str, hg1, hg3, e2, e3]
        | true => simp [bnd, G.ret, rd, opt, eS, seqI, seqL, biop, bInt, bLen, bList, bAbs, binop, big, asg, asgs, fits, line, bIsi, isTy, bTuple, soE, h9, gt_int, i2, hl', item0, itemL, eq_str, hg1, hg3, e2, e3, hm, ne_nilL, hen]
  · have i1 : ¬ (2 : Int) < l.length := by omega
    simp only [soB, decide_eq_false h1, Bool.false_and]
    simp [bnd, G.ret, rd, opt, eS, seqI, seqL, biop, bInt, bLen, bList, bAbs, binop, big, asg, asgs, fits, line, bIsi, isTy, bTuple, soE, h9, gt_int, i1, l2]
end K00

set_option Elab.async false
set_option linter.all false
set_option maxRecDepth 100000
set_option maxHeartbeats 4000000
namespace K00
open G
def lBody2 : G.S := match b_law with
  | .seq _ (.seq _ (.seq (.forr _ _ b) _)) => b
  | _ => .nil
theorem ne_bl2 (a b c d : Bool) (s : G.ST) : cmpop .ne (.lst [.bl a, .bl b]) (.lst [.bl c, .bl d]) s = some (!((a == c) && ((b == d) && true))) := rfl
def rowS : List Nat := [48, 48, 49, 50, 97, 98, 43, 45, 42, 58, 110, 105, 108, 116, 57]
theorem one_sum (cs : List Nat) : (cs.map fun _ => 1).sum = cs.length := by
  induction cs with
  | nil => rfl
  | cons c cs ih => rw [List.map_cons, List.sum_cons, ih, List.length_cons]; omega
theorem turn2 (a b : Int) (t : G.ST) (v x2 x3 x4 x5 x6 x7 x8 x9 x10 x11 : Option W) (r : List (Option W)) (hr : r.length = 9) : ∃ a' b' y8 y9 y10 y11, evS pk.pg (callD pk.pg 39) lBody2 (v :: some (.ref 0) :: x2 :: x3 :: x4 :: x5 :: x6 :: x7 :: x8 :: x9 :: x10 :: x11 :: r) (cup a b t) = .ok .nx (v :: some (.ref 0) :: x2 :: x3 :: x4 :: x5 :: x6 :: x7 :: some y8 :: some y9 :: some y10 :: some y11 :: r) (cup a' b' t) := by
  obtain ⟨m, a1, b1, m1, m2, em⟩ := roll 38 5 a b t (by omega) (by omega)
  have q : -small < m ∧ m < small := by unfold small; omega
  obtain ⟨ys, s2, el, ⟨a2, b2, cs, hs, hys, hl⟩⟩ := lc_inv (P := pk.pg) (call := callD pk.pg 39) (env := v :: some (.ref 0) :: x2 :: x3 :: x4 :: x5 :: x6 :: x7 :: x8 :: x9 :: x10 :: x11 :: r) (s := cup a b t) (t := .v 18) (it := .rng (.cons (.call 16 (.cons (.var 1) (.cons (.k (.int 5)) .nil))) .nil)) (ifs := .nil) (e := .call 17 (.cons (.var 1) (.cons (.k (.str rowS)) .nil))) (own := [18]) (xs := rngW 0 m.toNat) (s' := cup a1 b1 t) (by simp [bnd, G.ret, rd, opt, eS, seqI, seqL, biop, bInt, bLen, bList, bAbs, binop, big, asg, asgs, fits, line, bIsi, isTy, bTuple, em, rngOf, q])
    (fun j acc s => ∃ a b cs, s = cup a b t ∧ acc = cs.map (fun c => W.str [c]) ∧ cs.length ≤ j) ⟨a1, b1, [], rfl, rfl, by simp [bnd, G.ret, rd, opt, eS, seqI, seqL, biop, bInt, bLen, bList, bAbs, binop, big, asg, asgs, fits, line, bIsi, isTy, bTuple]⟩
    (fun j x acc s hj ⟨a, b, cs, hs, hacc, hl⟩ => by
      subst hs
      obtain ⟨c, a', b', hc, e⟩ := somS 37 rowS a b t (by decide) (by decide)
      refine ⟨v :: some (.ref 0) :: x2 :: x3 :: x4 :: x5 :: x6 :: x7 :: x8 :: x9 :: x10 :: x11 :: (r.set 6 none).set 6 (some x), by simp [bnd, G.ret, rd, opt, eS, seqI, seqL, biop, bInt, bLen, bList, bAbs, binop, big, asg, asgs, fits, line, bIsi, isTy, bTuple, wipes, hr], .inr ⟨cup a b t, .str [c], cup a' b' t, by simp [bnd, G.ret, rd, opt, eS, seqI, seqL, biop, bInt, bLen, bList, bAbs, binop, big, asg, asgs, fits, line, bIsi, isTy, bTuple], by simp [bnd, G.ret, rd, opt, eS, seqI, seqL, biop, bInt, bLen, bList, bAbs, binop, big, asg, asgs, fits, line, bIsi, isTy, bTuple, e], a', b', cs ++ [c], rfl, by simp [bnd, G.ret, rd, opt, eS, seqI, seqL, biop, bInt, bLen, bList, bAbs, binop, big, asg, asgs, fits, line, bIsi, isTy, bTuple, hacc], by simp [bnd, G.ret, rd, opt, eS, seqI, seqL, biop, bInt, bLen, bList, bAbs, binop, big, asg, asgs, fits, line, bIsi, isTy, bTuple]; omega⟩⟩)
    (fun ys s ⟨a, b, cs, _, hy, hl⟩ => by rw [rngW_len] at hl; rw [hy, List.length_map]; unfold line; omega)
  rw [rngW_len] at hl
  subst hs; subst hys
  -- the word that is looked at
  obtain ⟨o, a3, b3, eo⟩ := roll 38 2 a2 b2 t (by omega) (by omega)
  obtain ⟨o1, o2, eo⟩ := eo
  obtain ⟨l, a4, b4, hl20, e9⟩ : ∃ l a4 b4, l.length ≤ 20 ∧ ∀ env, env[1]? = some (some (.ref 0)) → env[8]? = some (some (.str cs)) → evE pk.pg (callD pk.pg 39) (.ife (.cmp .eq (.call 16 (.cons (.var 1) (.cons (.k (.int 2)) .nil))) (.k (.int 0))) (.call 18 (.cons (.var 1) .nil)) (.var 8)) env (cup a2 b2 t) = .ok (.str l) (cup a4 b4 t) := by
    by_cases ho : o = 0
    · obtain ⟨l, a4, b4, w1, w2, e⟩ := lawword_ok 36 a3 b3 t
      subst ho
      exact ⟨l, a4, b4, w2, fun env h1 h8 => by simp [bnd, G.ret, rd, opt, eS, seqI, seqL, biop, bInt, bLen, bList, bAbs, binop, big, asg, asgs, fits, line, bIsi, isTy, bTuple, h1, h8, eq_int, eo, e]⟩
    · have ho' : (o == 0) = false := by simpa [bnd, G.ret, rd, opt, eS, seqI, seqL, biop, bInt, bLen, bList, bAbs, binop, big, asg, asgs, fits, line, bIsi, isTy, bTuple] using ho
      exact ⟨cs, a3, b3, by omega, fun env h1 h8 => by simp [bnd, G.ret, rd, opt, eS, seqI, seqL, biop, bInt, bLen, bList, bAbs, binop, big, asg, asgs, fits, line, bIsi, isTy, bTuple, h1, h8, eq_int, eo, ho']⟩
  have k1 := isword_ok 35 l (cup a4 b4 t) (by omega)
  have k2 := isspec_ok 33 l (cup a4 b4 t) (by omega)
  have k3 := lword_ok 38 l (cup a4 b4 t) (by omega)
  have k4 : ∀ env, env[9]? = some (some (.str l)) → 20 < env.length → evE pk.pg (callD pk.pg 39) soE env (cup a4 b4 t) = .ok (.bl (soB l)) (cup a4 b4 t) := fun env h9 h20 => so_ok 39 l env _ h9 h20 (by omega)
  refine ⟨a4, b4, .str cs, .str l, .bl (soB l), .lst [.bl (wordB l), .bl (specB l)], ?_⟩
  have hb : lBody2 = .seq (.asg (.v 8) (.meth .join (.k (.str [])) (.cons (.lc (.v 18) (.rng (.cons (.call 16 (.cons (.var 1) (.cons (.k (.int 5)) .nil))) .nil)) .nil (.call 17 (.cons (.var 1) (.cons (.k (.str rowS)) .nil))) [18]) .nil))) (.seq (.asg (.v 9) (.ife (.cmp .eq (.call 16 (.cons (.var 1) (.cons (.k (.int 2)) .nil))) (.k (.int 0))) (.call 18 (.cons (.var 1) .nil)) (.var 8))) (.seq (.asg (.v 10) soE) (.seq (.asg (.v 11) (.lst (.cons (.call 10 (.cons (.var 9) .nil)) (.cons (.call 12 (.cons (.var 9) .nil)) .nil)))) (.seq (.ife (.or (.cmp .ne (.var 11) (.lst (.cons (.call 22 (.cons (.var 9) .nil)) (.cons (.and (.var 10) (.call 22 (.cons (.var 9) .nil))) .nil)))) (.not (.bi .isi (.cons (.ix (.var 11) (.k (.int 0))) (.cons (.k (.ty "bool")) .nil))))) (.seq (.rt (.k (.bl false))) .nil) .nil) .nil)))) := rfl
  rw [hb]
  have hj : meJoin [] (cup a2 b2 t) [.lst (cs.map fun c => .str [c])] = some (.str cs) := by
    have l1 : cs.length ≤ 16777216 := by omega
    have e1 : (((cs.map fun c => ([c] : List Nat)).map (·.length)).sum + (cs.map fun c => ([c] : List Nat)).length * ([] : List Nat).length) = cs.length := by
      rw [List.map_map]
      show (cs.map fun _ => 1).sum + _ = _
      rw [one_sum]; simp [bnd, G.ret, rd, opt, eS, seqI, seqL, biop, bInt, bLen, bList, bAbs, binop, big, asg, asgs, fits, line, bIsi, isTy, bTuple]
    simp only [meJoin, seqI, Option.bind_some, strsW1, e1, join1]
    rw [if_pos (by unfold line; omega)]
  have hi0 : item (.lst [.bl (wordB l), .bl (specB l)]) (.int 0) (cup a4 b4 t) = some (.bl (wordB l)) := by simp [bnd, G.ret, rd, opt, eS, seqI, seqL, biop, bInt, bLen, bList, bAbs, binop, big, asg, asgs, fits, line, bIsi, isTy, bTuple, item, ixOf]
  have hw : specB l = (soB l && wordB l) := spec_so l
  cases es : soB l with
  | true =>
    rw [es] at hw k4
    rw [Bool.true_and] at hw
    rw [hw] at k2 hi0 ⊢
    simp [bnd, G.ret, rd, opt, eS, seqI, seqL, biop, bInt, bLen, bList, bAbs, binop, big, asg, asgs, fits, line, bIsi, isTy, bTuple, -xE_ife, Me.isL, meS, el, hj, e9, k4, hr, k1, k2, k3, ne_bl2, hi0, es]
  | false =>
    rw [es] at hw k4
    rw [Bool.false_and] at hw
    rw [hw] at k2 hi0 ⊢
    simp [bnd, G.ret, rd, opt, eS, seqI, seqL, biop, bInt, bLen, bList, bAbs, binop, big, asg, asgs, fits, line, bIsi, isTy, bTuple, -xE_ife, Me.isL, meS, el, hj, e9, k4, hr, k1, k2, k3, ne_bl2, hi0, es]
end K00

set_option Elab.async false
set_option linter.all false
set_option maxRecDepth 100000
set_option maxHeartbeats 4000000
namespace K00
open G
def nest : Nat → W
  | 0 => .tup []
  | n + 1 => .tup [nest n]
theorem nest_ok : ∀ n, gdW (nest n) = true ∧ plW (nest n) = true ∧ szW (nest n) = n + 1 ∧ dpW (nest n) = n + 1
  | 0 => ⟨rfl, rfl, rfl, rfl⟩
  | n + 1 => by
    obtain ⟨h1, h2, h3, h4⟩ := nest_ok n
    refine ⟨?_, ?_, ?_, ?_⟩ <;> simp [bnd, G.ret, rd, opt, eS, seqI, seqL, biop, bInt, bLen, bList, bAbs, binop, big, asg, asgs, fits, line, bIsi, isTy, bTuple, nest, gdW, gds, plW, pls, szW, szs, dpW, dps, h1, h2, h3, h4]
def wide (n : Nat) : W := .tup (List.replicate n (.int 1))
theorem wide_l : ∀ n, gds (List.replicate n (.int 1)) = true ∧ pls (List.replicate n (.int 1)) = true ∧ szs (List.replicate n (.int 1)) = n ∧ dps (List.replicate (n + 1) (.int 1)) = 1
  | 0 => ⟨rfl, rfl, rfl, rfl⟩
  | n + 1 => by
    obtain ⟨h1, h2, h3, h4⟩ := wide_l n
    have e : (List.replicate (n + 1) (W.int 1)) = .int 1 :: List.replicate n (.int 1) := rfl
    have e2 : (List.replicate (n + 1 + 1) (W.int 1)) = .int 1 :: List.replicate (n + 1) (.int 1) := rfl
    refine ⟨?_, ?_, ?_, ?_⟩
    · rw [e]; simp [bnd, G.ret, rd, opt, eS, seqI, seqL, biop, bInt, bLen, bList, bAbs, binop, big, asg, asgs, fits, line, bIsi, isTy, bTuple, gds, gdW, atB, h1]
    · rw [e]; simp [bnd, G.ret, rd, opt, eS, seqI, seqL, biop, bInt, bLen, bList, bAbs, binop, big, asg, asgs, fits, line, bIsi, isTy, bTuple, pls, plW, plain, okLen, h2]
    · rw [e]; simp [bnd, G.ret, rd, opt, eS, seqI, seqL, biop, bInt, bLen, bList, bAbs, binop, big, asg, asgs, fits, line, bIsi, isTy, bTuple, szs, szW, h3]; omega
    · rw [e2]; simp only [dps, dpW, h4]; rfl
theorem wide_ok (n : Nat) : gdW (wide (n + 1)) = true ∧ plW (wide (n + 1)) = true ∧ szW (wide (n + 1)) = n + 2 ∧ dpW (wide (n + 1)) = 2 := by
  obtain ⟨h1, h2, h3, _⟩ := wide_l (n + 1)
  obtain ⟨_, _, _, h4⟩ := wide_l n
  refine ⟨h1, h2, ?_, ?_⟩
  · show szs _ + 1 = _
    rw [h3]
  · show dps _ + 1 = _
    rw [h4]
theorem f_nest59 (s : G.ST) : callD pk.pg 39 11 [nest 59] s = .ok (.bl true) s := by
  obtain ⟨h1, h2, h3, h4⟩ := nest_ok 59
  have := datum_ok 33 (nest 59) s h2 (by omega)
  rw [show okD (nest 59) = true by simp [bnd, G.ret, rd, opt, eS, seqI, seqL, biop, bInt, bLen, bList, bAbs, binop, big, asg, asgs, fits, line, bIsi, isTy, bTuple, okD, h1, h3, h4]] at this
  exact this
theorem f_nest60 (s : G.ST) : callD pk.pg 39 11 [nest 60] s = .ok (.bl false) s := by
  obtain ⟨h1, h2, h3, h4⟩ := nest_ok 60
  have := datum_ok 33 (nest 60) s h2 (by omega)
  rw [show okD (nest 60) = false by simp [bnd, G.ret, rd, opt, eS, seqI, seqL, biop, bInt, bLen, bList, bAbs, binop, big, asg, asgs, fits, line, bIsi, isTy, bTuple, okD, h1, h3, h4]] at this
  exact this
theorem f_wide999 (s : G.ST) : callD pk.pg 39 11 [wide 999] s = .ok (.bl true) s := by
  obtain ⟨h1, h2, h3, h4⟩ : gdW (wide 999) = true ∧ plW (wide 999) = true ∧ szW (wide 999) = 1000 ∧ dpW (wide 999) = 2 := wide_ok 998
  have := datum_ok 33 (wide 999) s h2 (by omega)
  rw [show okD (wide 999) = true by simp [bnd, G.ret, rd, opt, eS, seqI, seqL, biop, bInt, bLen, bList, bAbs, binop, big, asg, asgs, fits, line, bIsi, isTy, bTuple, okD, h1, h3, h4]] at this
  exact this
theorem f_wide1000 (s : G.ST) : callD pk.pg 39 11 [wide 1000] s = .ok (.bl false) s := by
  obtain ⟨h1, h2, h3, h4⟩ : gdW (wide 1000) = true ∧ plW (wide 1000) = true ∧ szW (wide 1000) = 1001 ∧ dpW (wide 1000) = 2 := wide_ok 999
  have := datum_ok 33 (wide 1000) s h2 (by omega)
  rw [show okD (wide 1000) = false by simp [bnd, G.ret, rd, opt, eS, seqI, seqL, biop, bInt, bLen, bList, bAbs, binop, big, asg, asgs, fits, line, bIsi, isTy, bTuple, okD, h1, h3, h4]] at this
  exact this
theorem f_deep (s : G.ST) : callD pk.pg 39 14 [nest 59] s = .ok (.int 60) s := by
  obtain ⟨h1, h2, h3, h4⟩ := nest_ok 59
  have := depth_ok 32 (nest 59) s h2 (by omega)
  rw [if_pos (show okD (nest 59) = true by simp [bnd, G.ret, rd, opt, eS, seqI, seqL, biop, bInt, bLen, bList, bAbs, binop, big, asg, asgs, fits, line, bIsi, isTy, bTuple, okD, h1, h3, h4]), h4] at this
  exact this
theorem f_size (s : G.ST) : callD pk.pg 39 13 [wide 999] s = .ok (.int 1000) s := by
  obtain ⟨h1, h2, h3, h4⟩ : gdW (wide 999) = true ∧ plW (wide 999) = true ∧ szW (wide 999) = 1000 ∧ dpW (wide 999) = 2 := wide_ok 998
  have := size_ok 32 (wide 999) s h2 (by omega)
  rw [if_pos (show okD (wide 999) = true by simp [bnd, G.ret, rd, opt, eS, seqI, seqL, biop, bInt, bLen, bList, bAbs, binop, big, asg, asgs, fits, line, bIsi, isTy, bTuple, okD, h1, h3, h4]), h3] at this
  exact this
theorem f_text (l : List Nat) (s : G.ST) (hl : l.length ≤ 500) : callD pk.pg 39 11 [.str l] s = .ok (.bl (wordB l || textB l)) s := by
  have := datum_ok 33 (.str l) s (by simp [bnd, G.ret, rd, opt, eS, seqI, seqL, biop, bInt, bLen, bList, bAbs, binop, big, asg, asgs, fits, line, bIsi, isTy, bTuple, plW, plain, okLen]; omega) (by simp [bnd, G.ret, rd, opt, eS, seqI, seqL, biop, bInt, bLen, bList, bAbs, binop, big, asg, asgs, fits, line, bIsi, isTy, bTuple, szW])
  rw [show okD (.str l) = (wordB l || textB l) by simp [bnd, G.ret, rd, opt, eS, seqI, seqL, biop, bInt, bLen, bList, bAbs, binop, big, asg, asgs, fits, line, bIsi, isTy, bTuple, okD, gdW, atB, szW, dpW]] at this
  exact this
end K00

set_option Elab.async false
set_option linter.all false
set_option maxRecDepth 100000
set_option maxHeartbeats 4000000
namespace K00
open G
def goodL : List (List Nat) := [[97, 43, 98], [49, 43], [45], [43], [116], [58, 120], [58], [109, 117, 108, 116, 105, 112, 108, 101, 45, 118, 97, 108, 117, 101, 45, 112, 114, 111, 103, 49], [43, 97, 53], [53, 97], [110, 105, 108, 108], [42]]
theorem goodL_ok : ∀ l ∈ goodL, wordB l = true ∧ l.length ≤ 20 := by decide +kernel
def xs21 : List Nat := [120, 120, 120, 120, 120, 120, 120, 120, 120, 120, 120, 120, 120, 120, 120, 120, 120, 120, 120, 120, 120]
def badL : List W := [.str [110, 105, 108], .str [45, 53], .str [43, 53], .str [48, 48, 55], .str [53], .str [], .str [65], .str [97, 32, 98], .str [97, 40], .str [97, 39], .str [97, 34], .str [97, 35], .str xs21, .non, .int 5, .tup [.str [97]], .str [45, 48], .str [97, 10]]
def notWord : W → Bool
  | .str l => !wordB l && decide (l.length ≤ 30)
  | w => notStr w
theorem badL_ok : ∀ w ∈ badL, notWord w = true := by
  intro w hw
  simp only [badL, List.mem_cons, List.not_mem_nil, or_false] at hw
  rcases hw with h | h | h | h | h | h | h | h | h | h | h | h | h | h | h | h | h | h <;> rw [h] <;> first | rfl | (simp only [notWord]; decide +kernel)
theorem notWord_ok {w : W} (h : notWord w = true) (s : G.ST) : callD pk.pg 39 10 [w] s = .ok (.bl false) s := by
  cases w with
  | str l =>
    simp only [notWord, Bool.and_eq_true, Bool.not_eq_true', decide_eq_true_eq] at h
    have := isword_ok 35 l s (by omega)
    rw [h.1] at this
    exact this
  | _ => exact isword_no 35 _ s h
theorem c_good (env : Env) (s : G.ST) (h : env[12]? = some (some (.lst (goodL.map .str)))) (h17 : 17 < env.length) : evE pk.pg (callD pk.pg 39) (.lc (.v 17) (.itr (.var 12)) (.cons (.cmp .isnot (.call 10 (.cons (.var 17) .nil)) (.k (.bl true))) .nil) (.var 17) [17]) env s = .ok (.lst []) s := by
  have := lc_row (P := pk.pg) (call := callD pk.pg 39) (env := env) (s := s) (s' := s) (t := .v 17) (it := .itr (.var 12)) (ifs := .cons (.cmp .isnot (.call 10 (.cons (.var 17) .nil)) (.k (.bl true))) .nil) (e := .var 17) (own := [17]) (xs := goodL.map .str) (by simp [bnd, G.ret, rd, opt, eS, seqI, seqL, biop, bInt, bLen, bList, bAbs, binop, big, asg, asgs, fits, line, bIsi, isTy, bTuple, srcOf, h]) (fun _ => none) (fun x hx => by
    obtain ⟨l, hl, rfl⟩ := List.mem_map.mp hx
    obtain ⟨w1, w2⟩ := goodL_ok l hl
    have k := isword_ok 35 l s (by omega)
    rw [w1] at k
    refine ⟨(env.set 17 none).set 17 (some (.str l)), by simp [bnd, G.ret, rd, opt, eS, seqI, seqL, biop, bInt, bLen, bList, bAbs, binop, big, asg, asgs, fits, line, bIsi, isTy, bTuple, wipes, h17], .inl ⟨rfl, ?_⟩⟩
    simp [bnd, G.ret, rd, opt, eS, seqI, seqL, biop, bInt, bLen, bList, bAbs, binop, big, asg, asgs, fits, line, bIsi, isTy, bTuple, h17, k, isnot_bl]) (by simp [bnd, G.ret, rd, opt, eS, seqI, seqL, biop, bInt, bLen, bList, bAbs, binop, big, asg, asgs, fits, line, bIsi, isTy, bTuple, goodL])
  rw [this]
  rfl
theorem c_bad (env : Env) (s : G.ST) (h : env[13]? = some (some (.lst badL))) (h17 : 17 < env.length) : evE pk.pg (callD pk.pg 39) (.lc (.v 17) (.itr (.var 13)) (.cons (.cmp .isnot (.call 10 (.cons (.var 17) .nil)) (.k (.bl false))) .nil) (.var 17) [17]) env s = .ok (.lst []) s := by
  have := lc_row (P := pk.pg) (call := callD pk.pg 39) (env := env) (s := s) (s' := s) (t := .v 17) (it := .itr (.var 13)) (ifs := .cons (.cmp .isnot (.call 10 (.cons (.var 17) .nil)) (.k (.bl false))) .nil) (e := .var 17) (own := [17]) (xs := badL) (by simp [bnd, G.ret, rd, opt, eS, seqI, seqL, biop, bInt, bLen, bList, bAbs, binop, big, asg, asgs, fits, line, bIsi, isTy, bTuple, srcOf, h]) (fun _ => none) (fun x hx => by
    have k := notWord_ok (badL_ok x hx) s
    refine ⟨(env.set 17 none).set 17 (some x), by simp [bnd, G.ret, rd, opt, eS, seqI, seqL, biop, bInt, bLen, bList, bAbs, binop, big, asg, asgs, fits, line, bIsi, isTy, bTuple, wipes, h17], .inl ⟨rfl, ?_⟩⟩
    simp [bnd, G.ret, rd, opt, eS, seqI, seqL, biop, bInt, bLen, bList, bAbs, binop, big, asg, asgs, fits, line, bIsi, isTy, bTuple, h17, k, isnot_bl]) (by simp [bnd, G.ret, rd, opt, eS, seqI, seqL, biop, bInt, bLen, bList, bAbs, binop, big, asg, asgs, fits, line, bIsi, isTy, bTuple, badL])
  rw [this]
  rfl
end K00

set_option Elab.async false
set_option linter.all false
set_option maxRecDepth 100000
set_option maxHeartbeats 4000000
namespace K00
open G
def specL : List W := [.str [42, 120, 42], .str [42, 49, 42], .str [42, 33, 49, 42], .str [42, 42], .str [42, 42, 42], .str [42], .str [42, 45, 42], .str [120, 42], .str [42, 120], .str [116], .non, .str [42, 42, 120, 42, 42]]
def spB : W → Bool
  | .str l => specB l
  | _ => false
def spE : E := .tup (.cons (.k (.str [42, 120, 42])) (.cons (.k (.str [42, 49, 42])) (.cons (.k (.str [42, 33, 49, 42])) (.cons (.k (.str [42, 42])) (.cons (.k (.str [42, 42, 42])) (.cons (.k (.str [42])) (.cons (.k (.str [42, 45, 42])) (.cons (.k (.str [120, 42])) (.cons (.k (.str [42, 120])) (.cons (.k (.str [116])) (.cons (.k .non) (.cons (.k (.str [42, 42, 120, 42, 42])) .nil))))))))))))
def spR : List W := [.bl true, .bl true, .bl true, .bl false, .bl false, .bl false, .bl false, .bl false, .bl false, .bl false, .bl false, .bl true]
theorem specL_ok : ∀ w ∈ specL, (match w with | .str l => decide (l.length ≤ 20) | w => notStr w) = true := by
  intro w hw
  simp only [specL, List.mem_cons, List.not_mem_nil, or_false] at hw
  rcases hw with h | h | h | h | h | h | h | h | h | h | h | h <;> rw [h] <;> rfl
theorem spR_eq : specL.filterMap (fun w => some (W.bl (spB w))) = spR := by
  have h1 : specB [42, 120, 42] = true := by decide +kernel
  have h2 : specB [42, 49, 42] = true := by decide +kernel
  have h3 : specB [42, 33, 49, 42] = true := by decide +kernel
  have h4 : specB [42, 42] = false := by decide +kernel
  have h5 : specB [42, 42, 42] = false := by decide +kernel
  have h6 : specB [42] = false := by decide +kernel
  have h7 : specB [42, 45, 42] = false := by decide +kernel
  have h8 : specB [120, 42] = false := by decide +kernel
  have h9 : specB [42, 120] = false := by decide +kernel
  have h10 : specB [116] = false := by decide +kernel
  have h11 : specB [42, 42, 120, 42, 42] = true := by decide +kernel
  simp only [specL, List.filterMap_cons, List.filterMap_nil, spB, h1, h2, h3, h4, h5, h6, h7, h8, h9, h10, h11]
  rfl
theorem c_spec (env : Env) (s : G.ST) (h17 : 17 < env.length) : evE pk.pg (callD pk.pg 39) (.lc (.v 17) (.itr spE) .nil (.call 12 (.cons (.var 17) .nil)) [17]) env s = .ok (.lst spR) s := by
  have := lc_row (P := pk.pg) (call := callD pk.pg 39) (env := env) (s := s) (s' := s) (t := .v 17) (it := .itr spE) (ifs := .nil) (e := .call 12 (.cons (.var 17) .nil)) (own := [17]) (xs := specL) (by simp [bnd, G.ret, rd, opt, eS, seqI, seqL, biop, bInt, bLen, bList, bAbs, binop, big, asg, asgs, fits, line, bIsi, isTy, bTuple, srcOf, spE, specL]) (fun w => some (.bl (spB w))) (fun x hx => by
    have k0 := specL_ok x hx
    have k : callD pk.pg 39 12 [x] s = .ok (.bl (spB x)) s := by
      cases x with
      | str l => exact isspec_ok 33 l s (by have : l.length ≤ 20 := by simpa [bnd, G.ret, rd, opt, eS, seqI, seqL, biop, bInt, bLen, bList, bAbs, binop, big, asg, asgs, fits, line, bIsi, isTy, bTuple] using k0
                                            omega)
      | _ => exact isspec_no 33 _ s k0
    refine ⟨(env.set 17 none).set 17 (some x), by simp [bnd, G.ret, rd, opt, eS, seqI, seqL, biop, bInt, bLen, bList, bAbs, binop, big, asg, asgs, fits, line, bIsi, isTy, bTuple, wipes, h17], .inr ⟨_, rfl, by simp [bnd, G.ret, rd, opt, eS, seqI, seqL, biop, bInt, bLen, bList, bAbs, binop, big, asg, asgs, fits, line, bIsi, isTy, bTuple], ?_⟩⟩
    simp [bnd, G.ret, rd, opt, eS, seqI, seqL, biop, bInt, bLen, bList, bAbs, binop, big, asg, asgs, fits, line, bIsi, isTy, bTuple, h17, k]) (by simp [bnd, G.ret, rd, opt, eS, seqI, seqL, biop, bInt, bLen, bList, bAbs, binop, big, asg, asgs, fits, line, bIsi, isTy, bTuple, specL])
  rw [this, spR_eq]
end K00

set_option Elab.async false
set_option linter.all false
set_option maxRecDepth 100000
set_option maxHeartbeats 4000000
namespace K00
open G
def aN (k : Int) : List Nat := 34 :: rep k.toNat [97]
theorem rep_len (n : Nat) : (rep n [97]).length = n := by
  induction n with
  | zero => rfl
  | succ n ih => simp [bnd, G.ret, rd, opt, eS, seqI, seqL, biop, bInt, bLen, bList, bAbs, big, asg, asgs, fits, line, bIsi, isTy, bTuple, rep, ih]
def txB (w : W) : Bool := match w with
  | .int k => wordB (aN k) || textB (aN k)
  | _ => false
theorem tx_eq : [W.int 0, .int 400, .int 401].filterMap (fun w => some (W.bl (txB w))) = [.bl true, .bl true, .bl false] := by
  have h1 : (wordB (aN 0) || textB (aN 0)) = true := by decide +kernel
  have h2 : (wordB (aN 400) || textB (aN 400)) = true := by decide +kernel
  have h3 : (wordB (aN 401) || textB (aN 401)) = false := by decide +kernel
  simp only [List.filterMap_cons, List.filterMap_nil, txB, h1, h2, h3]
theorem b_aN (k : Int) (s : G.ST) (h0 : 0 ≤ k) (h1 : k ≤ 401) : binop .mul (.str [97]) (.int k) s = some (.str (rep k.toNat [97])) := by
  simp only [binop]
  rw [if_pos ⟨h0, by omega, by simp [bnd, G.ret, rd, opt, eS, seqI, seqL, biop, bInt, bLen, bList, bAbs, big, asg, asgs, fits, line, bIsi, isTy, bTuple, line]; omega⟩]
theorem b_aN2 (k : Int) (s : G.ST) (h0 : 0 ≤ k) (h1 : k ≤ 401) : binop .add (.str [34]) (.str (rep k.toNat [97])) s = some (.str (aN k)) := by
  simp only [binop]
  rw [if_pos (by rw [rep_len]; simp [bnd, G.ret, rd, opt, eS, seqI, seqL, biop, bInt, bLen, bList, bAbs, big, asg, asgs, fits, line, bIsi, isTy, bTuple, line]; omega)]
  rfl
theorem c_text (env : Env) (s : G.ST) (h19 : 19 < env.length) : evE pk.pg (callD pk.pg 39) (.lc (.v 19) (.itr (.tup (.cons (.k (.int 0)) (.cons (.k (.int 400)) (.cons (.k (.int 401)) .nil))))) .nil (.call 11 (.cons (.bin .add (.k (.str [34])) (.bin .mul (.k (.str [97])) (.var 19))) .nil)) [19]) env s = .ok (.lst [.bl true, .bl true, .bl false]) s := by
  have := lc_row (P := pk.pg) (call := callD pk.pg 39) (env := env) (s := s) (s' := s) (t := .v 19) (it := .itr (.tup (.cons (.k (.int 0)) (.cons (.k (.int 400)) (.cons (.k (.int 401)) .nil))))) (ifs := .nil) (e := .call 11 (.cons (.bin .add (.k (.str [34])) (.bin .mul (.k (.str [97])) (.var 19))) .nil)) (own := [19]) (xs := [.int 0, .int 400, .int 401]) (by simp [bnd, G.ret, rd, opt, eS, seqI, seqL, biop, bInt, bLen, bList, bAbs, big, asg, asgs, fits, line, bIsi, isTy, bTuple, srcOf]) (fun w => some (.bl (txB w))) (fun x hx => by
    obtain ⟨k, rfl, k0, k1⟩ : ∃ k : Int, x = .int k ∧ 0 ≤ k ∧ k ≤ 401 := by
      simp only [List.mem_cons, List.not_mem_nil, or_false] at hx
      rcases hx with h | h | h <;> exact ⟨_, h, by omega, by omega⟩
    have hlen : (aN k).length ≤ 500 := by simp only [aN, List.length_cons, rep_len]; omega
    have kk := f_text (aN k) s hlen
    refine ⟨(env.set 19 none).set 19 (some (.int k)), by simp [bnd, G.ret, rd, opt, eS, seqI, seqL, biop, bInt, bLen, bList, bAbs, big, asg, asgs, fits, line, bIsi, isTy, bTuple, wipes, h19], .inr ⟨_, rfl, by simp [bnd, G.ret, rd, opt, eS, seqI, seqL, biop, bInt, bLen, bList, bAbs, big, asg, asgs, fits, line, bIsi, isTy, bTuple], ?_⟩⟩
    simp only [txB]
    simp [bnd, G.ret, rd, opt, eS, seqI, seqL, biop, bInt, bLen, bList, bAbs, big, asg, asgs, fits, line, bIsi, isTy, bTuple, h19, b_aN k s k0 k1, b_aN2 k s k0 k1, kk]) (by simp [bnd, G.ret, rd, opt, eS, seqI, seqL, biop, bInt, bLen, bList, bAbs, big, asg, asgs, fits, line, bIsi, isTy, bTuple])
  rw [this, tx_eq]
end K00

set_option Elab.async false
set_option linter.all false
set_option maxRecDepth 100000
set_option maxHeartbeats 4000000
namespace K00
open G
theorem nest_loop (x0 x1 x2 x3 x4 x5 x6 x7 x8 x9 x10 x11 x12 x13 x14 : Option W) (e1 : List (Option W)) (s : G.ST) : ∃ y2, evS pk.pg (callD pk.pg 39) (.forr (.v 2) (.rng (.cons (.k (.int 59)) .nil)) (.seq (.asg (.v 15) (.tup (.cons (.var 15) .nil))) .nil)) (x0 :: x1 :: x2 :: x3 :: x4 :: x5 :: x6 :: x7 :: x8 :: x9 :: x10 :: x11 :: x12 :: x13 :: x14 :: some (nest 0) :: e1) s = .ok .nx (x0 :: x1 :: y2 :: x3 :: x4 :: x5 :: x6 :: x7 :: x8 :: x9 :: x10 :: x11 :: x12 :: x13 :: x14 :: some (nest 59) :: e1) s := by
  obtain ⟨env', s2, e, ⟨y2, hx, hs⟩⟩ := for_inv (P := pk.pg) (call := callD pk.pg 39) (env := x0 :: x1 :: x2 :: x3 :: x4 :: x5 :: x6 :: x7 :: x8 :: x9 :: x10 :: x11 :: x12 :: x13 :: x14 :: some (nest 0) :: e1) (s := s) (s' := s) (t := .v 2) (it := .rng (.cons (.k (.int 59)) .nil)) (b := .seq (.asg (.v 15) (.tup (.cons (.var 15) .nil))) .nil) (xs := rngW 0 59) (by simp [bnd, G.ret, rd, opt, eS, seqI, seqL, biop, bInt, bLen, bList, bAbs, big, asg, asgs, fits, line, bIsi, isTy, bTuple, rngOf, small])
    (fun j env s' => ∃ y2, env = x0 :: x1 :: y2 :: x3 :: x4 :: x5 :: x6 :: x7 :: x8 :: x9 :: x10 :: x11 :: x12 :: x13 :: x14 :: some (nest j) :: e1 ∧ s' = s) ⟨x2, rfl, rfl⟩
    (fun j x env s' hj ⟨y2, he, hs⟩ => by
      subst hs; subst he
      exact ⟨_, x0 :: x1 :: some x :: x3 :: x4 :: x5 :: x6 :: x7 :: x8 :: x9 :: x10 :: x11 :: x12 :: x13 :: x14 :: some (nest (j + 1)) :: e1, _, rfl, by simp [bnd, G.ret, rd, opt, eS, seqI, seqL, biop, bInt, bLen, bList, bAbs, big, asg, asgs, fits, line, bIsi, isTy, bTuple, nest], some x, rfl, rfl⟩)
  rw [rngW_len] at hx
  exact ⟨y2, by rw [e, hx, hs]⟩
end K00

set_option Elab.async false
set_option linter.all false
set_option maxRecDepth 100000
set_option maxHeartbeats 4000000
namespace K00
open G
theorem rep_repl {α : Type} (x : α) : ∀ n, rep n [x] = List.replicate n x
  | 0 => rfl
  | n + 1 => by simp [bnd, G.ret, rd, opt, eS, seqI, seqL, biop, bInt, bLen, bList, bAbs, big, asg, asgs, fits, line, bIsi, isTy, bTuple, rep, rep_repl x n, List.replicate_succ]
theorem w999 (s : G.ST) : binop .mul (.tup [.int 1]) (.int 999) s = some (wide 999) := by
  simp only [binop]
  rw [if_pos (by decide)]
  show some (W.tup (rep 999 [.int 1])) = _
  rw [rep_repl]; rfl
theorem w1000 (s : G.ST) : binop .add (wide 999) (.tup [.int 1]) s = some (wide 1000) := by
  have e : (List.replicate 999 (W.int 1)).length + ([W.int 1]).length ≤ line := by rw [List.length_replicate]; decide
  show (if (List.replicate 999 (W.int 1)).length + ([W.int 1]).length ≤ line then some (W.tup (List.replicate 999 (W.int 1) ++ [W.int 1])) else none) = _
  rw [if_pos e]
  rw [show List.replicate 999 (W.int 1) ++ [W.int 1] = List.replicate 1000 (W.int 1) from (List.replicate_succ' (n := 999)).symm]
  rfl
theorem add_nil (s : G.ST) : binop .add (.lst []) (.lst []) s = some (.lst []) := rfl
def lTail : G.S := match b_law with
  | .seq _ (.seq _ (.seq _ r)) => r
  | _ => .nil
theorem ne_spR (s : G.ST) : cmpop .ne (.lst spR) (.lst spR) s = some false := rfl
theorem ne_b3 (s : G.ST) : cmpop .ne (.lst [.bl true, .bl true, .bl false]) (.lst [.bl true, .bl true, .bl false]) s = some false := rfl
theorem ne_intL (a b : Int) (s : G.ST) : cmpop .ne (.int a) (.int b) s = some (!(a == b)) := rfl
theorem eq_tup2 (a b c d : Int) (s : G.ST) : cmpop .eq (.tup [.int a, .int b]) (.tup [.int c, .int d]) s = some ((a == c) && ((b == d) && true)) := rfl
def smallW : W := .tup [.int 1, .tup [.str [120]]]
theorem okSmall : okD smallW = true ∧ plW smallW = true ∧ szW smallW = 4 ∧ dpW smallW = 3 := by
  have h : wordB [120] = true := by decide +kernel
  refine ⟨?_, rfl, rfl, rfl⟩
  simp [bnd, G.ret, rd, opt, eS, seqI, seqL, biop, bInt, bLen, bList, bAbs, big, asg, asgs, fits, line, bIsi, isTy, bTuple, okD, smallW, gdW, gds, atB, h, dpW, dps, szW, szs]
theorem f_s1 (s : G.ST) : callD pk.pg 39 13 [smallW] s = .ok (.int 4) s := by
  obtain ⟨h1, h2, h3, h4⟩ := okSmall
  have := size_ok 32 smallW s h2 (by omega)
  rw [if_pos h1, h3] at this
  exact this
theorem f_s2 (s : G.ST) : callD pk.pg 39 14 [smallW] s = .ok (.int 3) s := by
  obtain ⟨h1, h2, h3, h4⟩ := okSmall
  have := depth_ok 32 smallW s h2 (by omega)
  rw [if_pos h1, h4] at this
  exact this
theorem f_s3 (s : G.ST) : callD pk.pg 39 11 [.lst [.int 1]] s = .ok (.bl false) s := datum_ok 33 (.lst [.int 1]) s rfl (by simp [bnd, G.ret, rd, opt, eS, seqI, seqL, biop, bInt, bLen, bList, bAbs, big, asg, asgs, fits, line, bIsi, isTy, bTuple, szW])
theorem f_s4 (s : G.ST) : callD pk.pg 39 14 [.tup []] s = .ok (.int 1) s := by
  have := depth_ok 32 (.tup []) s rfl (by simp [bnd, G.ret, rd, opt, eS, seqI, seqL, biop, bInt, bLen, bList, bAbs, big, asg, asgs, fits, line, bIsi, isTy, bTuple, szW, szs])
  rw [if_pos (show okD (.tup []) = true by simp [bnd, G.ret, rd, opt, eS, seqI, seqL, biop, bInt, bLen, bList, bAbs, big, asg, asgs, fits, line, bIsi, isTy, bTuple, okD, gdW, gds, dpW, dps, szW, szs])] at this
  exact this
end K00

set_option Elab.async false
set_option linter.all false
set_option maxRecDepth 100000
set_option maxHeartbeats 4000000
namespace K00
open G
section
variable {P : Pg} {call : Nat → List W → M W} {env env' : Env} {s s' : G.ST}
theorem q_seq {a b : G.S} (h : evS P call a env s = .ok .nx env' s') : evS P call (.seq a b) env s = evS P call b env' s' := by rw [xS_seq, h]
theorem q_asg {t : T} {e : E} {w : W} (h : evE P call e env s = .ok w s') (ha : asg t w env = some env') : evS P call (.asg t e) env s = .ok .nx env' s' := by
  rw [xS_asg]; simp only [eS, h, ha]
theorem q_no {c : E} {a : G.S} (h : evE P call c env s = .ok (.bl false) s') : evS P call (.ife c a .nil) env s = .ok .nx env s' := by
  rw [xS_ife]; simp only [eS, h]; rw [xS_nil]
theorem q_or {a b : E} {s2 : G.ST} (h : evE P call a env s = .ok (.bl false) s') (h2 : evE P call b env s' = .ok (.bl false) s2) : evE P call (.or a b) env s = .ok (.bl false) s2 := by
  rw [xE_or]; simp only [bnd, h, h2]
theorem q_cmp {op : Cop} {a b : E} {x y : W} {r : Bool} {s2 : G.ST} (h : evE P call a env s = .ok x s') (h2 : evE P call b env s' = .ok y s2) (h3 : cmpop op x y s2 = some r) : evE P call (.cmp op a b) env s = .ok (.bl r) s2 := by
  rw [xE_cmp]; simp only [bnd, h, h2, rd, h3, G.ret]
theorem q_rt {e : E} {b : G.S} {w : W} (h : evE P call e env s = .ok w s') : evS P call (.seq (.rt e) b) env s = .ok (.rt w) env s' := by
  rw [xS_seq, xS_rt]; simp only [eS, h]
theorem q_and {a b : E} {r : Bool} {s2 : G.ST} (h : evE P call a env s = .ok (.bl true) s') (h2 : evE P call b env s' = .ok (.bl r) s2) : evE P call (.and a b) env s = .ok (.bl r) s2 := by
  rw [xE_and]; simp only [bnd, h, h2]
end

section
variable (env : Env) (s : G.ST)
theorem u1 (h : env[15]? = some (some (nest 59))) : evE pk.pg (callD pk.pg 39) (.cmp .isnot (.call 11 (.cons (.var 15) .nil)) (.k (.bl true))) env s = .ok (.bl false) s :=
  q_cmp (x := .bl true) (s' := s) (by rw [xE_call, xA_cons, xA_nil, xE_var]; simp only [h, bnd, opt, G.ret, f_nest59]) ev_k (isnot_bl _ _ s)
theorem u2 (h : env[15]? = some (some (nest 59))) : evE pk.pg (callD pk.pg 39) (.cmp .isnot (.call 11 (.cons (.tup (.cons (.var 15) .nil)) .nil)) (.k (.bl false))) env s = .ok (.bl false) s := by
  have e := f_nest60 s
  rw [show nest 60 = W.tup [nest 59] from rfl] at e
  have e2 : evE pk.pg (callD pk.pg 39) (.tup (.cons (.var 15) .nil)) env s = .ok (.tup [nest 59]) s := by
    rw [xE_tup, xA_cons, xA_nil, xE_var]; simp only [h, bnd, opt, G.ret, fits, List.length_cons, List.length_nil]; rw [if_pos (by decide)]; rfl
  exact q_cmp (x := .bl false) (s' := s) (by rw [xE_call, xA_cons, xA_nil]; simp only [e2, bnd, G.ret, e]) ev_k (isnot_bl _ _ s)
theorem u3 (h : env[16]? = some (some (wide 999))) : evE pk.pg (callD pk.pg 39) (.cmp .isnot (.call 11 (.cons (.var 16) .nil)) (.k (.bl true))) env s = .ok (.bl false) s :=
  q_cmp (x := .bl true) (s' := s) (by rw [xE_call, xA_cons, xA_nil, xE_var]; simp only [h, bnd, opt, G.ret, f_wide999]) ev_k (isnot_bl _ _ s)
theorem u4 (h : env[16]? = some (some (wide 999))) : evE pk.pg (callD pk.pg 39) (.cmp .isnot (.call 11 (.cons (.bin .add (.var 16) (.tup (.cons (.k (.int 1)) .nil))) .nil)) (.k (.bl false))) env s = .ok (.bl false) s := by
  have e2 : evE pk.pg (callD pk.pg 39) (.bin .add (.var 16) (.tup (.cons (.k (.int 1)) .nil))) env s = .ok (wide 1000) s :=
    ev_bin (ev_v h) (y := .tup [.int 1]) (s2 := s) (by rw [xE_tup, xA_cons, xA_nil, xE_k]; simp only [bnd, opt, G.ret, fits, List.length_cons, List.length_nil]; rw [if_pos (by decide)]; rfl) (w1000 s)
  exact q_cmp (x := .bl false) (s' := s) (by rw [xE_call, xA_cons, xA_nil]; simp only [e2, bnd, G.ret, f_wide1000]) ev_k (isnot_bl _ _ s)
theorem u5 (h : env[15]? = some (some (nest 59))) : evE pk.pg (callD pk.pg 39) (.cmp .ne (.call 14 (.cons (.var 15) .nil)) (.k (.int 60))) env s = .ok (.bl false) s :=
  q_cmp (x := .int 60) (s' := s) (by rw [xE_call, xA_cons, xA_nil, xE_var]; simp only [h, bnd, opt, G.ret, f_deep]) ev_k (ne_intL _ _ s)
theorem u6 (h : env[16]? = some (some (wide 999))) : evE pk.pg (callD pk.pg 39) (.cmp .ne (.call 13 (.cons (.var 16) .nil)) (.k (.int 1000))) env s = .ok (.bl false) s :=
  q_cmp (x := .int 1000) (s' := s) (by rw [xE_call, xA_cons, xA_nil, xE_var]; simp only [h, bnd, opt, G.ret, f_size]) ev_k (ne_intL _ _ s)
theorem u7 : evE pk.pg (callD pk.pg 39) (.bin .mul (.tup (.cons (.k (.int 1)) .nil)) (.k (.int 999))) env s = .ok (wide 999) s :=
  ev_bin (x := .tup [.int 1]) (s1 := s) (by rw [xE_tup, xA_cons, xA_nil, xE_k]; simp only [bnd, opt, G.ret, fits, List.length_cons, List.length_nil]; rw [if_pos (by decide)]; rfl) ev_k (w999 s)
theorem u8 : evE pk.pg (callD pk.pg 39) (.lst (.cons (.k (.bl true)) (.cons (.k (.bl true)) (.cons (.k (.bl false)) .nil)))) env s = .ok (.lst [.bl true, .bl true, .bl false]) s := by simp [bnd, G.ret, rd, opt, eS, seqI, seqL, biop, bInt, bLen, bList, bAbs, big, asg, asgs, fits, line, bIsi, isTy, bTuple]
theorem a1 : evE pk.pg (callD pk.pg 39) (.tup (.cons (.k (.int 1)) (.cons (.tup (.cons (.k (.str [120])) .nil)) .nil))) env s = .ok smallW s := by simp [bnd, G.ret, rd, opt, eS, seqI, seqL, biop, bInt, bLen, bList, bAbs, big, asg, asgs, fits, line, bIsi, isTy, bTuple, smallW]
theorem a2 : evE pk.pg (callD pk.pg 39) (.call 13 (.cons (.tup (.cons (.k (.int 1)) (.cons (.tup (.cons (.k (.str [120])) .nil)) .nil))) .nil)) env s = .ok (.int 4) s := by
  rw [xE_call, xA_cons, xA_nil]; simp only [bnd, a1, G.ret, f_s1]
theorem a3 : evE pk.pg (callD pk.pg 39) (.call 14 (.cons (.tup (.cons (.k (.int 1)) (.cons (.tup (.cons (.k (.str [120])) .nil)) .nil))) .nil)) env s = .ok (.int 3) s := by
  rw [xE_call, xA_cons, xA_nil]; simp only [bnd, a1, G.ret, f_s2]
theorem a4 : evE pk.pg (callD pk.pg 39) (.cmp .eq (.tup (.cons (.call 13 (.cons (.tup (.cons (.k (.int 1)) (.cons (.tup (.cons (.k (.str [120])) .nil)) .nil))) .nil)) (.cons (.call 14 (.cons (.tup (.cons (.k (.int 1)) (.cons (.tup (.cons (.k (.str [120])) .nil)) .nil))) .nil)) .nil))) (.tup (.cons (.k (.int 4)) (.cons (.k (.int 3)) .nil)))) env s = .ok (.bl true) s :=
  q_cmp (x := .tup [.int 4, .int 3]) (y := .tup [.int 4, .int 3]) (s' := s) (by rw [xE_tup, xA_cons, xA_cons, xA_nil]; simp only [bnd, a2, a3, G.ret, fits, List.length_cons, List.length_nil]; rw [if_pos (by decide)]; rfl) (by simp [bnd, G.ret, rd, opt, eS, seqI, seqL, biop, bInt, bLen, bList, bAbs, big, asg, asgs, fits, line, bIsi, isTy, bTuple]) (eq_tup2 4 3 4 3 s)
theorem a5 : evE pk.pg (callD pk.pg 39) (.cmp .is (.call 11 (.cons (.lst (.cons (.k (.int 1)) .nil)) .nil)) (.k (.bl false))) env s = .ok (.bl true) s :=
  q_cmp (x := .bl false) (s' := s) (by simp [bnd, G.ret, rd, opt, eS, seqI, seqL, biop, bInt, bLen, bList, bAbs, big, asg, asgs, fits, line, bIsi, isTy, bTuple, f_s3]) ev_k (is_bl _ _ s)
theorem a6 : evE pk.pg (callD pk.pg 39) (.cmp .eq (.call 14 (.cons (.tup .nil) .nil)) (.k (.int 1))) env s = .ok (.bl true) s :=
  q_cmp (x := .int 1) (s' := s) (by simp [bnd, G.ret, rd, opt, eS, seqI, seqL, biop, bInt, bLen, bList, bAbs, big, asg, asgs, fits, line, bIsi, isTy, bTuple, f_s4]) ev_k rfl
theorem v1 : evE pk.pg (callD pk.pg 39) (match lTail with | .seq (.asg _ e) _ => e | _ => .nil) env s = .ok (.lst (goodL.map .str)) s := by
  simp only [lTail, b_law]; simp [bnd, G.ret, rd, opt, eS, seqI, seqL, biop, bInt, bLen, bList, bAbs, big, asg, asgs, fits, line, bIsi, isTy, bTuple, goodL]
theorem v2 : evE pk.pg (callD pk.pg 39) (match lTail with | .seq _ (.seq (.asg _ e) _) => e | _ => .nil) env s = .ok (.lst badL) s := by
  simp only [lTail, b_law]; simp [bnd, G.ret, rd, opt, eS, seqI, seqL, biop, bInt, bLen, bList, bAbs, big, asg, asgs, fits, line, bIsi, isTy, bTuple, badL, x21, xs21]
theorem v3 : evE pk.pg (callD pk.pg 39) (.lst (.cons (.k (.bl true)) (.cons (.k (.bl true)) (.cons (.k (.bl true)) (.cons (.k (.bl false)) (.cons (.k (.bl false)) (.cons (.k (.bl false)) (.cons (.k (.bl false)) (.cons (.k (.bl false)) (.cons (.k (.bl false)) (.cons (.k (.bl false)) (.cons (.k (.bl false)) (.cons (.k (.bl true)) .nil))))))))))))) env s = .ok (.lst spR) s := by simp [bnd, G.ret, rd, opt, eS, seqI, seqL, biop, bInt, bLen, bList, bAbs, big, asg, asgs, fits, line, bIsi, isTy, bTuple, spR]
end
theorem tail (x0 x1 x2 x3 x4 x5 x6 x7 x8 x9 x10 x11 x12 x13 x14 x15 x16 x17 x18 x19 x20 : Option W) (s : G.ST) : ∃ env', evS pk.pg (callD pk.pg 39) lTail [x0, x1, x2, x3, x4, x5, x6, x7, x8, x9, x10, x11, x12, x13, x14, x15, x16, x17, x18, x19, x20] s = .ok (.rt (.bl true)) env' s := by
  have w1 := fun env => v1 env s
  have w2 := fun env => v2 env s
  simp only [lTail, b_law] at w1 w2
  simp only [lTail, b_law]
  rw [q_seq (q_asg (w1 _) rfl)]
  rw [q_seq (q_asg (w2 _) rfl)]
  rw [q_seq (q_no (s' := s) (q_cmp (ev_bin (c_good _ s rfl (by simp [bnd, G.ret, rd, opt, eS, seqI, seqL, biop, bInt, bLen, bList, bAbs, big, asg, asgs, fits, line, bIsi, isTy, bTuple])) (c_bad _ s rfl (by simp [bnd, G.ret, rd, opt, eS, seqI, seqL, biop, bInt, bLen, bList, bAbs, big, asg, asgs, fits, line, bIsi, isTy, bTuple])) (add_nil s)) (ev_lst ev_nil (by simp [bnd, G.ret, rd, opt, eS, seqI, seqL, biop, bInt, bLen, bList, bAbs, big, asg, asgs, fits, line, bIsi, isTy, bTuple])) (ne_nil0 s)))]
  have e5 := fun (env : Env) h => c_spec env s h
  simp only [spE] at e5
  rw [q_seq (q_asg (w := .lst spR) (s' := s) (e5 _ (by simp [bnd, G.ret, rd, opt, eS, seqI, seqL, biop, bInt, bLen, bList, bAbs, big, asg, asgs, fits, line, bIsi, isTy, bTuple])) rfl)]
  rw [q_seq (q_no (s' := s) (q_cmp (x := .lst spR) (ev_v rfl) (v3 _ s) (ne_spR s)))]
  rw [q_seq (q_asg (w := nest 0) (s' := s) (by rw [xE_tup, xA_nil]; rfl) rfl)]
  simp only [List.set_cons_succ, List.set_cons_zero]
  obtain ⟨y2, e⟩ := nest_loop x0 x1 x2 x3 x4 x5 x6 x7 x8 x9 x10 x11 (some (.lst (goodL.map .str))) (some (.lst badL)) (some (.lst spR)) [x16, x17, x18, x19, x20] s
  rw [q_seq e]
  rw [q_seq (q_asg (u7 _ s) rfl)]
  simp only [List.set_cons_succ, List.set_cons_zero]
  rw [q_seq (q_no (q_or (u1 _ s rfl) (q_or (u2 _ s rfl) (q_or (u3 _ s rfl) (u4 _ s rfl)))))]
  rw [q_seq (q_no (q_or (q_cmp (c_text _ s (by simp [bnd, G.ret, rd, opt, eS, seqI, seqL, biop, bInt, bLen, bList, bAbs, big, asg, asgs, fits, line, bIsi, isTy, bTuple])) (u8 _ s) (ne_b3 s)) (q_or (u5 _ s rfl) (u6 _ s rfl))))]
  exact ⟨_, q_rt (q_and (a4 _ s) (q_and (a5 _ s) (a6 _ s)))⟩
end K00

set_option Elab.async false
set_option linter.all false
set_option maxRecDepth 100000
set_option maxHeartbeats 4000000
namespace K00
open G
theorem law_true : LawTrue pk 40 24 63 := by
  intro ns hn hb
  obtain ⟨a, b, ec⟩ := cup_ok 38 ns hn
  have hbody : b_law = .seq (.asg (.v 1) (.call 15 (.cons (.var 0) .nil))) (.seq (.forr (.v 2) (.rng (.cons (.k (.int 3)) .nil)) lBody1) (.seq (.forr (.v 2) (.rng (.cons (.k (.int 6)) .nil)) lBody2) lTail)) := rfl
  have h0 : evS pk.pg (callD pk.pg 39) (.asg (.v 1) (.call 15 (.cons (.var 0) .nil))) (some (.scr ns) :: List.replicate 20 none) [] = .ok .nx (some (.scr ns) :: some (.ref 0) :: List.replicate 19 none) (cup a b []) :=
    q_asg (w := .ref 0) (by rw [xE_call, xA_cons, xA_nil, xE_var]; simp only [bnd, opt, G.ret, List.getElem?_cons_zero]; exact ec) rfl
  obtain ⟨env1, s1, e1, ⟨a1, b1, t1, x2, x3, x4, x5, x6, x7, hv1, hs1⟩⟩ := for_inv (P := pk.pg) (call := callD pk.pg 39) (env := some (.scr ns) :: some (.ref 0) :: List.replicate 19 none) (s := cup a b []) (s' := cup a b []) (t := .v 2) (it := .rng (.cons (.k (.int 3)) .nil)) (b := lBody1) (xs := rngW 0 3) (by simp [bnd, G.ret, rd, opt, eS, seqI, seqL, biop, bInt, bLen, bList, bAbs, big, asg, asgs, fits, line, bIsi, isTy, bTuple, rngOf, small])
    (fun j env s' => ∃ a b t x2 x3 x4 x5 x6 x7, env = some (.scr ns) :: some (.ref 0) :: x2 :: x3 :: x4 :: x5 :: x6 :: x7 :: List.replicate 13 none ∧ s' = cup a b t) ⟨a, b, [], none, none, none, none, none, none, rfl, rfl⟩
    (fun j x env s' hj ⟨a, b, t, x2, x3, x4, x5, x6, x7, he, hs⟩ => by
      subst he; subst hs
      obtain ⟨a', b', y3, y4, y5, y6, y7, u, e⟩ := turn1 a b t (some (.scr ns)) (some x) x3 x4 x5 x6 x7 (List.replicate 13 none)
      exact ⟨_, _, _, rfl, e, a', b', t ++ [u], some x, some y3, some y4, some y5, some y6, some y7, rfl, rfl⟩)
  subst hv1; subst hs1
  obtain ⟨env2, s2, e2, ⟨a2, b2, x2, x8, x9, x10, x11, hv2, hs2⟩⟩ := for_inv (P := pk.pg) (call := callD pk.pg 39) (env := some (.scr ns) :: some (.ref 0) :: x2 :: x3 :: x4 :: x5 :: x6 :: x7 :: List.replicate 13 none) (s := cup a1 b1 t1) (s' := cup a1 b1 t1) (t := .v 2) (it := .rng (.cons (.k (.int 6)) .nil)) (b := lBody2) (xs := rngW 0 6) (by simp [bnd, G.ret, rd, opt, eS, seqI, seqL, biop, bInt, bLen, bList, bAbs, big, asg, asgs, fits, line, bIsi, isTy, bTuple, rngOf, small])
    (fun j env s' => ∃ a b x2 x8 x9 x10 x11, env = some (.scr ns) :: some (.ref 0) :: x2 :: x3 :: x4 :: x5 :: x6 :: x7 :: x8 :: x9 :: x10 :: x11 :: List.replicate 9 none ∧ s' = cup a b t1) ⟨a1, b1, x2, none, none, none, none, rfl, rfl⟩
    (fun j x env s' hj ⟨a, b, x2, x8, x9, x10, x11, he, hs⟩ => by
      subst he; subst hs
      obtain ⟨a', b', y8, y9, y10, y11, e⟩ := turn2 a b t1 (some (.scr ns)) (some x) x3 x4 x5 x6 x7 x8 x9 x10 x11 (List.replicate 9 none) rfl
      exact ⟨_, _, _, rfl, e, a', b', some x, some y8, some y9, some y10, some y11, rfl, rfl⟩)
  subst hv2; subst hs2
  obtain ⟨env3, e3⟩ := tail (some (.scr ns)) (some (.ref 0)) x2 x3 x4 x5 x6 x7 x8 x9 x10 x11 none none none none none none none none none (cup a2 b2 t1)
  refine ⟨cup a2 b2 t1, ?_⟩
  rw [call_eq (df := ⟨1, 21, b_law⟩) rfl rfl]
  show (match evS pk.pg (callD pk.pg 39) b_law (some (W.scr ns) :: List.replicate 20 none) [] with
        | .ok .nx _ s' => R.ok W.non s'
        | .ok (.rt w) _ s' => .ok w s'
        | .exc c l _ s' => .exc c l s'
        | _ => .err) = _
  rw [hbody, q_seq h0, q_seq e1, q_seq e2]
  have e4 : evS pk.pg (callD pk.pg 39) lTail (some (W.scr ns) :: some (.ref 0) :: x2 :: x3 :: x4 :: x5 :: x6 :: x7 :: x8 :: x9 :: x10 :: x11 :: List.replicate 9 none) (cup a2 b2 t1) = .ok (.rt (.bl true)) env3 (cup a2 b2 t1) := e3
  rw [e4]
end K00

set_option Elab.async false
set_option linter.all false
set_option maxRecDepth 100000
set_option maxHeartbeats 0
namespace K00
open PySem PySem.Spec PyProof.Rows L2 G
def names0 : List Str := ["LispError", "InvalidDatum", "InvalidForm", "InvalidProgram", "InvalidType", "InvalidNumber", "InvalidText", "SIZE", "DEPTH", "GREATEST", "LONGEST", "TEXT", "FIGURES", "WITHIN", "SIGNS", "is_whole", "is_made_of", "is_figures", "fits_word", "fits_name", "fits_special", "fits_text", "is_atom", "measured", "need_datum", "is_word", "is_datum", "is_special", "datum_size", "datum_depth"]
def names1 : List Str := ["_law_cup", "_law_roll", "_law_some", "_law_word", "_law_text", "_law_datum", "_law_size", "_law_error", "_law_is_word", "_law_spoilt"]
def names : List Str := names0 ++ names1
abbrev R : PySem.W.OpenRow := PySem.W.OpenLaw.row PySem.Challenge.rw_restartlisp_k00_whole_words_and_data
abbrev hk : PySem.W.Hook := hookG 4 pk.fa pk.fn pk.lam
def ob (s : PySem.W.SharedT) : He.Al × Bool := obG 4 pk.fa pk.fn pk.lam s
theorem ob_eq (s : PySem.W.SharedT) : ob s = hk.obs s.abs := obG_eq s
theorem run (w : World) : HandSHeadRun.RunEq R (PySem.W.view R.prog [43]) hk ob 4000 names w := by
  intro os
  kernel_rfl
end K00

set_option Elab.async false
set_option linter.all false
set_option maxRecDepth 100000
set_option maxHeartbeats 0
open PySem PySem.W PySem.Calls PyProof.Rows
theorem PySem.Challenge.cw_restartlisp_k00_whole_words_and_data_holds : PySem.Challenge.rw_restartlisp_k00_whole_words_and_data.Holds := by
  w_on; o_law
  refine HandSHeadRun.head_any (r := OpenLaw.row PySem.Challenge.rw_restartlisp_k00_whole_words_and_data) (q := view (OpenLaw.row PySem.Challenge.rw_restartlisp_k00_whole_words_and_data).prog [43]) (H := K00.hk) (ob := K00.ob) (M := 4000) (loose := K00.names) (d := HandSHeadRun.topDef (OpenLaw.row PySem.Challenge.rw_restartlisp_k00_whole_words_and_data).prog 43) (kwd := []) K00.ob_eq
    (by kernel_rfl) (fun s => by kernel_rfl) K00.run (by kernel_rfl) (by kernel_rfl) (by kernel_rfl) (by rfl) (by first | assumption | decide +kernel) (by decide +kernel) ⟨rfl, rfl, rfl, rfl, rfl, by decide +kernel⟩ ?hw ?hc
  case hw => w_witness2
  case hc =>
    refine LamX.walk_ofTsE (l := PySem.Challenge.rw_restartlisp_k00_whole_words_and_data) (n := 63) (k := 40) (x := "_law_script") (CX := fun w => L2.CX PySem.Challenge.rw_restartlisp_k00_whole_words_and_data.prog w) rfl (by decide) (by kernel_rfl) ⟨rfl, by decide, by decide⟩ ?F ?C
    case C =>
      intro w H s e s' h
      exact G.cx_false h
    intro w mg fa h Y X hmg0
    obtain ⟨K, KX, c, tb⟩ := Y
    have hmg : mg ("law" : PySem.Str) = some (.ref fa) := by
      have e : (HandSHeadRun.topDef (OpenLaw.row PySem.Challenge.rw_restartlisp_k00_whole_words_and_data).prog 43).name = ("law" : PySem.Str) := by kernel_rfl
      rw [← e]
      exact hmg0
    exact ⟨K, KX, G.law_at K00.ok KX X hmg c tb (i := 24) (by rfl) (fun dd hd => by cases hd; rfl) (fun T => K00.tells KX X c T) K00.law_true⟩
