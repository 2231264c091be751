import PyProof.Rows.All
import Wide.All
import OpenK.AllK
import Wide.FinOn
import HandS.ForMost
import HandS.ForExc
import HandS.Deep
import HandS.Star
import HandS.TupAny
import HandS.TupMul
import HandS.IsInst
import HandS.Conv
import HandS.Zip
import HandS.CallSlots
import HandS.WordsExc
import HandS.MakeKw
import HandS.MakeKwOnly
import HandS.Style
import HandS.Wide
import HandS.TupLe
import HandS.OwnIter
import HandS.TryMany
import HandS.TryOnly
import HandS.DictComp
import KE.KDictKeyed
import KE.KDictWalk
import KE.KStateDown
import HandS.More
import HandS.Defaults
import HandS.Head0
import HandS.Head1
import HandS.Head2
import HandS.HeadEnd
import HandS.HeadHook1
import HandS.HeadHook2
import HandS.HeadHook3
import HandS.HeadHook4
import HandS.HeadWalk
import KE.KDictDisplayH
import PySem.Challenge.RW_enddeeds_k03_whole_alike
set_option Elab.async false
set_option linter.all false
set_option maxRecDepth 100000
set_option autoImplicit false
set_option maxHeartbeats 4000000
-- Zk1
namespace Zk
open PySem

/-- a value: tuples, frozen lists, dicts and instances are plain data; loc: a mutable object of the store -/
inductive PV where
  | non
  | bl (b : Bool)
  | int (i : Int)
  | str (x : Str)
  | tup (xs : List PV)
  | lst (xs : List PV)
  | rol (xs : List PV)
  | dct (t : Bool) (ks vs : List PV)
  | obj (c : Nat) (ks : List Str) (vs : List PV)
  | loc (n : Nat)
  deriving Inhabited

/-- what stands in the store -/
inductive MO where
  | lst (xs : List PV)
  | dct (t : Bool) (ks vs : List PV)
  | ins (c : Nat) (ks : List Str) (vs : List PV)
  | dead
  deriving Inhabited
abbrev Store := List MO
abbrev Sl := List (Option PV)

/-- an exception: its class, its one field -/
structure Exn where
  c : Nat
  f : Option (Str × PV)

inductive R (α : Type) where
  | ok (a : α) (M : Store)
  | exc (x : Exn) (M : Store)
  | bad
inductive RS where
  | nx (ρ : Sl) (M : Store)
  | rt (v : PV) (M : Store)
  | bk (ρ : Sl) (M : Store)
  | ct (ρ : Sl) (M : Store)
  | exc (x : Exn) (ρ : Sl) (M : Store)
  | bad
def R.bind {α β : Type} (r : R α) (f : α → Store → R β) : R β := match r with
  | .ok a M => f a M
  | .exc x M => .exc x M
  | .bad => .bad
def R.toS (r : R PV) (ρ : Sl) (f : PV → Store → RS) : RS := match r with
  | .ok a M => f a M
  | .exc x M => .exc x ρ M
  | .bad => .bad
def RS.then (r : RS) (f : Sl → Store → RS) : RS := match r with
  | .nx ρ M => f ρ M
  | r => r

def strGood (x : Str) : Bool := x.cps.all fun c => decide (c < 1114112)
mutual
/-- data that == is told of -/
def okD : PV → Bool
  | .non => true
  | .bl _ => true
  | .int _ => true
  | .str x => strGood x
  | .tup xs => okDL xs
  | .lst xs => okDL xs
  | .rol _ => false
  | .dct _ _ _ => false
  | .obj _ _ _ => false
  | .loc _ => false
def okDL : List PV → Bool
  | [] => true
  | x :: xs => okD x && okDL xs
end
mutual
def dep : PV → Nat
  | .tup xs => depL xs + 1
  | .lst xs => depL xs + 1
  | .rol _ => 0
  | .non => 0
  | .bl _ => 0
  | .int _ => 0
  | .str _ => 0
  | .dct _ _ _ => 0
  | .obj _ _ _ => 0
  | .loc _ => 0
def depL : List PV → Nat
  | [] => 0
  | x :: xs => max (dep x) (depL xs)
end
mutual
/-- Python's == -/
def eqB : PV → PV → Bool
  | .non, y => (match y with | .non => true | _ => false)
  | .bl a, y => (match y with | .bl b => a == b | .int j => (if a then 1 else 0) == j | _ => false)
  | .int i, y => (match y with | .bl b => i == (if b then 1 else 0) | .int j => i == j | _ => false)
  | .str x, y => (match y with | .str z => x == z | _ => false)
  | .tup xs, y => (match y with | .tup ys => eqBL xs ys | _ => false)
  | .lst xs, y => (match y with | .lst ys => eqBL xs ys | _ => false)
  | .rol _, _ => false
  | .dct _ _ _, _ => false
  | .obj _ _ _, _ => false
  | .loc _, _ => false
def eqBL : List PV → List PV → Bool
  | [], ys => (match ys with | [] => true | _ :: _ => false)
  | x :: xs, ys => (match ys with | [] => false | y :: ys => eqB x y && eqBL xs ys)
end
def shp (a : PV) : Bool := okD a && decide (dep a ≤ 60)
def flat : PV → Bool
  | .non => true
  | .bl _ => true
  | .int _ => true
  | .str _ => true
  | _ => false

mutual
def locF : PV → Bool
  | .tup xs => locFL xs
  | .lst xs => locFL xs
  | .rol xs => locFL xs
  | .dct _ ks vs => locFL ks && locFL vs
  | .obj _ _ vs => locFL vs
  | .loc _ => false
  | _ => true
def locFL : List PV → Bool
  | [] => true
  | x :: xs => locF x && locFL xs
end

inductive BOp where | add | sub | mul | fdiv | mod | pow
  deriving DecidableEq
inductive COp where | eq | ne | lt | le | gt | ge | inn | notin
  deriving DecidableEq
/-- built-in functions -/
inductive Blt where | len | all | any | sum | max | abs | intI | lstF | lstM | tupl | srt | strI | dctF | dctM | lrng | litm | dctP
  deriving DecidableEq
/-- methods of built-in types -/
inductive BMt where | append | pop | popAt | index | items | count | join | split | clear | extend
  deriving DecidableEq
inductive Ty where
  | b (n : Nat)
  | c (n : Nat)
  deriving DecidableEq
/-- a target: a name; names in a tuple -/
inductive Tg where
  | one (i : Nat)
  | many (is : List Nat)
  deriving DecidableEq
/-- what is walked -/
inductive ItK where | val | range | range2 | zip | zip3 | enum | items
  deriving DecidableEq

inductive SE where
  | anil
  | acons (e r : SE)
  | astar (e r : SE)
  | var (i : Nat)
  | cst (v : PV)
  | glb (x : Str)
  | tup (r : SE)
  | lst (m : Bool) (r : SE)
  | dct (m t : Bool) (ks vs : SE)
  | bop (o : BOp) (a b : SE)
  | neg (a : SE)
  | cmp (o : COp) (a b : SE)
  | chain (o o' : COp) (a b c : SE)
  | isN (a : SE)
  | notT (a : SE)
  | dne (a b : SE)
  | lenO (e : SE)
  | notN (a : SE)
  | andE (a b : SE)
  | orE (a b : SE)
  | notE (a : SE)
  | ife (c a b : SE)
  | attr (e : SE) (f : Str)
  | sub (a b : SE)
  | slc (a lo hi : SE)
  | rev (a : SE)
  | call (f : Nat) (iso : Bool) (r : SE)
  | make (c : Nat) (fz : Bool) (r : SE)
  | mkK (c : Nat) (fz : Bool) (r kr : SE) (ks : List Str)
  | meth (e : SE) (m : Str) (iso : Bool) (r : SE)
  | blt (b : Blt) (r : SE)
  | bm (e : SE) (b : BMt) (r : SE)
  | isi (e : SE) (ts : List Ty)
  | lc (elt : SE) (tg : Tg) (own : List Nat) (k : ItK) (it cond : SE)
  | dc (t : Bool) (key val : SE) (tg : Tg) (own : List Nat) (k : ItK) (it cond : SE)
  | frz (e : SE)

inductive SS where
  | nil
  | cons (s r : SS)
  | expr (e : SE)
  | set (i : Nat) (e : SE)
  | asg (is : List Nat) (e : SE)
  | par (is : List Nat) (r : SE)
  | setA (o : SE) (f : Str) (e : SE)
  | asgA (o : Nat) (fs : List Str) (e : SE)
  | setI (o i e : SE)
  | aug (i : Nat) (e : SE)
  | ret (e : SE)
  | retN
  | ife (c : SE) (a b : SS)
  | forr (tg : Tg) (k : ItK) (it : SE) (b : SS)
  | whil (c : SE) (b : SS)
  | pass
  | cont
  | never
  | frzV (i : Nat) (r : SS)

/-- what the interpreter is told of the program: a class's method, its maker, whether a name is a plain field of it -/
structure Tabs where
  meth : Nat → Str → Option Nat
  init : Nat → Nat
  fld : Nat → Str → Bool
  fnm : Nat → Option Str
  cnm : Nat → Option Str
  kwo : Nat → List Str
  npo : Nat → Nat
  isi : Nat → Bool
  glb : Str → Option PV
abbrev Calls := Nat → List PV → Store → R PV

def mostLen : Nat := 1000000
def small (i : Int) : Bool := decide (-(2 ^ 64) < i) && decide (i < 2 ^ 64)
def bopV : BOp → PV → PV → Option PV
  | .add, .int i, .int j => some (.int (i + j))
  | .add, .str x, .str y => if x.length + y.length ≤ mostLen then some (.str (x ++ y)) else none
  | .add, .tup xs, .tup ys => if xs.length + ys.length ≤ mostLen then some (.tup (xs ++ ys)) else none
  | .add, .lst xs, .lst ys => if xs.length + ys.length ≤ mostLen then some (.lst (xs ++ ys)) else none
  | .sub, .int i, .int j => some (.int (i - j))
  | .mul, .int i, .int j => if small i || small j then some (.int (i * j)) else none
  | .mul, .lst xs, .int k => if k ≤ 1000 && xs.length ≤ 1000 && decide (-1000 ≤ k) then some (.lst (List.replicate k.toNat xs).flatten) else none
  | .mul, .tup xs, .int k => if decide (1 ≤ k) && decide (k ≤ 1000) && decide (xs.length ≤ 1000) && !xs.isEmpty then some (.tup (List.replicate k.toNat xs).flatten) else none
  | .fdiv, .int i, .int j => if decide (0 < j) && decide (j.natAbs.log2 < 9000) then some (.int (i / j)) else none
  | .mod, .int i, .int j => if 0 < j then some (.int (i % j)) else none
  | .pow, .int i, .int j => if decide (0 ≤ j) && decide (j ≤ 1000) && decide (i.natAbs < 1000) then some (.int (i ^ j.toNat)) else none
  | _, _, _ => none
/-- an index from either end -/
def ixN (n : Nat) (i : Int) : Option Nat := if 0 ≤ i then (if i < n then some i.toNat else none) else if -(n : Int) ≤ i then some (i + n).toNat else none
def atI {α : Type} (xs : List α) (i : Int) : Option α := (ixN xs.length i).bind fun j => xs[j]?
def sIx (n d : Nat) : Option Int → Nat
  | none => d
  | some v => if v < 0 then (v + (n : Int)).toNat else min v.toNat n
def cut {α : Type} (xs : List α) (lo hi : Option Int) : List α := (xs.drop (sIx xs.length 0 lo)).take (sIx xs.length xs.length hi - sIx xs.length 0 lo)
/-- the value at a key (by ==) -/
def dget (k : PV) : List PV → List PV → Option PV
  | x :: xs, v :: vs => if eqB x k then some v else dget k xs vs
  | _, _ => none
/-- v in the place of a key's value -/
def repl (k v : PV) : List PV → List PV → List PV
  | x :: xs, w :: ws => (if eqB x k then v else w) :: repl k v xs ws
  | _, ws => ws
/-- k: v is put: at its place, or at the end -/
def dput (k v : PV) (ks vs : List PV) : List PV × List PV :=
  if ks.any (fun x => eqB x k) then (ks, repl k v ks vs) else (ks ++ [k], vs ++ [v])
/-- what may be a key of a dict: of tuples, of intsL and texts -/
def keyOk (t : Bool) (k : PV) : Bool := match t, k with
  | true, .tup xs => okDL xs && decide (dep (.tup xs) ≤ 7) && noLst (.tup xs)
  | false, .int _ => true
  | false, .str _ => true
  | _, _ => false
where
  noLst : PV → Bool
    | .lst _ => false
    | .tup xs => noLstL xs
    | _ => true
  noLstL : List PV → Bool
    | [] => true
    | x :: xs => noLst x && noLstL xs
/-- None is no key of a dict of tuples -/
def noneIn : Bool → PV → Option Bool
  | true, .non => some false
  | _, _ => none
def inV (x y : PV) (M : Store) : Option Bool := match y with
  | .tup ys => if flat x && ys.all flat then some (ys.any fun z => eqB z x) else none
  | .lst ys => if shp x && shp (.lst ys) then some (ys.any fun z => eqB z x) else none
  | .dct t ks vs => if keyOk t x then some (dget x ks vs).isSome else noneIn t x
  | .str z => (match x with
    | .str ⟨⟨[c]⟩⟩ => some (z.cps.toList.any fun d => d == c)
    | _ => none)
  | .loc n => (match (M[n]? : Option MO) with
    | some (.lst ys) => if shp x && shp (.lst ys) then some (ys.any fun z => eqB z x) else none
    | some (.dct t ks vs) => if keyOk t x then some (dget x ks vs).isSome else noneIn t x
    | _ => none)
  | _ => none
/-- a list of the store is read as its items -/
def thaw (v : PV) (M : Store) : PV := match v with
  | .loc n => (match (M[n]? : Option MO) with
    | some (.lst xs) => .lst xs
    | _ => v)
  | _ => v
def cmpV (M : Store) : COp → PV → PV → Option Bool
  | .eq, a, b => if shp (thaw a M) && shp (thaw b M) then some (eqB (thaw a M) (thaw b M)) else none
  | .ne, a, b => if shp (thaw a M) && shp (thaw b M) then some (!eqB (thaw a M) (thaw b M)) else none
  | .lt, .int i, .int j => some (decide (i < j))
  | .le, .int i, .int j => some (decide (i ≤ j))
  | .gt, .int i, .int j => some (decide (j < i))
  | .ge, .int i, .int j => some (decide (j ≤ i))
  | .inn, a, b => inV a b M
  | .notin, a, b => (inV a b M).map (!·)
  | _, _, _ => none
def R.of (o : Option PV) (M : Store) : R PV := match o with
  | some v => .ok v M
  | none => .bad
def R.ofB (o : Option Bool) (M : Store) : R PV := match o with
  | some b => .ok (.bl b) M
  | none => .bad
/-- an attribute's value among the fields -/
def fldAt (f : Str) : List Str → List PV → Option PV
  | k :: ks, v :: vs => if f = k then some v else fldAt f ks vs
  | _, _ => none
def fldPut (f : Str) (v : PV) : List Str → List PV → List Str × List PV
  | k :: ks, w :: ws => if f = k then (k :: ks, v :: ws) else let r := fldPut f v ks ws; (k :: r.1, w :: r.2)
  | _, _ => ([f], [v])
def attrV (T : Tabs) (f : Str) (v : PV) (M : Store) : Option PV := match v with
  | .obj c ks vs => if T.fld c f then fldAt f ks vs else none
  | .loc n => (match (M[n]? : Option MO) with
    | some (.ins c ks vs) => if T.fld c f then fldAt f ks vs else none
    | _ => none)
  | _ => none
def subV (a b : PV) (M : Store) : Option PV := match a with
  | .tup xs => (match b with | .int i => atI xs i | _ => none)
  | .lst xs => (match b with | .int i => atI xs i | _ => none)
  | .rol xs => (match b with | .int i => atI xs i | _ => none)
  | .dct t ks vs => if keyOk t b then dget b ks vs else none
  | .loc n => (match (M[n]? : Option MO) with
    | some (.lst xs) => (match b with | .int i => atI xs i | _ => none)
    | some (.dct t ks vs) => if keyOk t b then dget b ks vs else none
    | _ => none)
  | _ => none
def isAnil : SE → Bool
  | .anil => true
  | _ => false
/-- a bound of a slice: left out, or an int -/
def partV (ab : Bool) (v : PV) : Option (Option Int) := if ab then some none else match v with
  | .int i => some (some i)
  | _ => none
def slcV (a : PV) (l h : Option Int) (M : Store) : Option PV := match thaw a M with
  | .tup xs => some (.tup (cut xs l h))
  | .lst xs => some (.lst (cut xs l h))
  | .rol xs => some (.lst (cut xs l h))
  | _ => none
def intsL : List PV → Option (List Int)
  | [] => some []
  | .int i :: r => (intsL r).map (i :: ·)
  | _ => none
def boolsL : List PV → Option (List Bool)
  | [] => some []
  | .bl i :: r => (boolsL r).map (i :: ·)
  | _ => none
/-- intsL in order, by insertion -/
def ins1 (i : Int) : List Int → List Int
  | [] => [i]
  | j :: r => if i ≤ j then i :: j :: r else j :: ins1 i r
def srtI : List Int → List Int
  | [] => []
  | i :: r => ins1 i (srtI r)
def maxI : List Int → Option Int
  | [] => none
  | i :: r => match maxI r with
    | none => some i
    | some j => some (if j < i then i else j)
def rangeL (i : Int) : Nat → List PV
  | 0 => []
  | n + 1 => .int i :: rangeL (i + 1) n
def zip2 : List PV → List PV → List PV
  | x :: xs, y :: ys => .tup [x, y] :: zip2 xs ys
  | _, _ => []
def seqV : PV → Option (List PV)
  | .tup xs => some xs
  | .lst xs => some xs
  | _ => none
/-- the pairs of a list, each with a key -/
def pairsL : List PV → Option (List (PV × PV))
  | [] => some []
  | .tup [k, v] :: r => if keyOk true k then (pairsL r).map ((k, v) :: ·) else none
  | _ => none
def putAll : List (PV × PV) → List PV × List PV → List PV × List PV
  | [], d => d
  | (k, v) :: r, d => putAll r (dput k v d.1 d.2)
def bltV (b : Blt) (vs : List PV) (M : Store) : R PV := match b, vs with
  | .len, [v] => (match thaw v M with
    | .tup xs => .ok (.int xs.length) M
    | .lst xs => .ok (.int xs.length) M
    | .rol xs => .ok (.int xs.length) M
    | .str x => if x.length ≤ mostLen then .ok (.int x.length) M else .bad
    | .dct _ ks _ => .ok (.int ks.length) M
    | .loc n => (match (M[n]? : Option MO) with
      | some (.dct _ ks _) => .ok (.int ks.length) M
      | _ => .bad)
    | _ => .bad)
  | .all, [.lst xs] => (match boolsL xs with | some bs => .ok (.bl (bs.all id)) M | none => .bad)
  | .any, [.lst xs] => (match boolsL xs with | some bs => .ok (.bl (bs.any id)) M | none => .bad)
  | .sum, [.lst xs] => (match intsL xs with | some bs => .ok (.int bs.sum) M | none => .bad)
  | .max, [.lst xs] => (match (intsL xs).bind maxI with | some m => .ok (.int m) M | none => .bad)
  | .abs, [.int i] => .ok (.int (if i < 0 then -i else i)) M
  | .intI, [.int i] => .ok (.int i) M
  | .lstF, [v] => (match thaw v M with
    | .tup xs => .ok (.lst xs) M
    | .lst xs => .ok (.lst xs) M
    | .dct _ ks _ => .ok (.lst ks) M
    | .loc n => (match (M[n]? : Option MO) with
      | some (.dct _ ks _) => .ok (.lst ks) M
      | _ => .bad)
    | _ => .bad)
  | .lstM, [v] => (match thaw v M with
    | .tup xs => .ok (.loc M.length) (M ++ [.lst xs])
    | .lst xs => .ok (.loc M.length) (M ++ [.lst xs])
    | .dct _ ks _ => .ok (.loc M.length) (M ++ [.lst ks])
    | _ => .bad)
  | .tupl, [v] => (match thaw v M with
    | .tup xs => .ok (.tup xs) M
    | .lst xs => .ok (.tup xs) M
    | _ => .bad)
  | .srt, [v] => (match seqV v with
    | some xs => (match intsL xs with | some bs => if bs.length < 64 then .ok (.lst ((srtI bs).map PV.int)) M else .bad | none => .bad)
    | none => .bad)
  | .lrng, [.int j] => if decide (-1000000 ≤ j) && decide (j ≤ 1000000) then .ok (.lst (rangeL 0 j.toNat)) M else .bad
  | .litm, [v] => (match v with
    | .dct _ ks vs => .ok (.lst (zip2 ks vs)) M
    | .loc n => (match (M[n]? : Option MO) with
      | some (.dct _ ks vs) => .ok (.lst (zip2 ks vs)) M
      | _ => .bad)
    | _ => .bad)
  | .dctP, [.lst xs] => if xs.length ≤ mostLen then (match pairsL xs with
    | some ps => .ok (.dct true (putAll ps ([], [])).1 (putAll ps ([], [])).2) M
    | none => .bad) else .bad
  | .dctF, [v] => (match v with
    | .dct t ks vs => .ok (.dct t ks vs) M
    | .lst [] => .ok (.dct true [] []) M
    | .loc n => (match (M[n]? : Option MO) with
      | some (.dct t ks vs) => .ok (.dct t ks vs) M
      | _ => .bad)
    | _ => .bad)
  | _, _ => .bad
def bmV (b : BMt) (v : PV) (vs : List PV) (M : Store) : R PV := match b, v, vs with
  | .append, .loc n, [x] => (match (M[n]? : Option MO) with
    | some (.lst xs) => if xs.length < mostLen then .ok .non (M.set n (.lst (xs ++ [x]))) else .bad
    | _ => .bad)
  | .popAt, .loc n, [.int i] => if i = 0 then (match (M[n]? : Option MO) with
    | some (.lst (x :: xs)) => .ok x (M.set n (.lst xs))
    | _ => .bad) else .bad
  | .index, .lst xs, [x] => if shp x && shp (.lst xs) then (match xs.findIdx? (fun z => eqB z x) with
    | some i => .ok (.int i) M
    | none => .bad) else .bad
  | _, _, _ => .bad
/-- the receiver of a method is of its type -/
def bmOk (b : BMt) (v : PV) (M : Store) : Bool := match b with
  | .join => (match v with | .str _ => true | _ => false)
  | .split => (match v with | .str _ => true | _ => false)
  | _ => (match thaw v M with | .lst _ => true | _ => false)
def tyOk (T : Tabs) (v : PV) (M : Store) : Ty → Option Bool
  | .b k => if k ≤ 5 then (match v with
    | .non => some false
    | .bl _ => some (k == 0 || k == 1)
    | .int _ => some (k == 1)
    | .str _ => some (k == 2)
    | .tup _ => some (k == 3)
    | .lst _ => some (k == 4)
    | .rol _ => none
    | .dct t _ _ => if t then none else some (k == 5)
    | .obj c _ _ => if T.isi c then some false else none
    | .loc n => (match (M[n]? : Option MO) with
      | some (.lst _) => some (k == 4)
      | some (.dct t _ _) => if t then none else some (k == 5)
      | some (.ins c _ _) => if T.isi c then some false else none
      | _ => none)) else none
  | .c k => if T.isi k then (match v with
    | .obj c _ _ => if T.isi c then some (k == c) else none
    | .loc n => (match (M[n]? : Option MO) with
      | some (.ins c _ _) => if T.isi c then some (k == c) else none
      | some (.lst _) => some false
      | some (.dct t _ _) => if t then none else some false
      | _ => none)
    | .rol _ => none
    | .dct t _ _ => if t then none else some false
    | _ => some false) else none
def isiV (T : Tabs) (v : PV) (M : Store) : List Ty → Option Bool
  | [] => some false
  | t :: ts => match tyOk T v M t with
    | some true => some true
    | some false => isiV T v M ts
    | none => none
def zip3 : List PV → List PV → List PV → List PV
  | x :: xs, y :: ys, z :: zs => .tup [x, y, z] :: zip3 xs ys zs
  | _, _, _ => []
def enumL (i : Int) : List PV → List PV
  | [] => []
  | x :: xs => .tup [.int i, x] :: enumL (i + 1) xs
def walkV (k : ItK) (vs : List PV) : Option (List PV) := match k, vs with
  | .val, [.tup xs] => some xs
  | .val, [.lst xs] => some xs
  | .val, [.dct t ks _] => if t then some ks else none
  | .range, [.int j] => if decide (-1000000 ≤ j) && decide (j ≤ 1000000) then some (rangeL 0 j.toNat) else none
  | .range2, [.int i, .int j] => if decide (-1000000 ≤ i) && decide (i ≤ 1000000) && decide (-1000000 ≤ j) && decide (j ≤ 1000000) then some (rangeL i (j - i).toNat) else none
  | .zip, [.tup xs, .tup ys] => some (zip2 xs ys)
  | .zip, [.lst xs, .lst ys] => some (zip2 xs ys)
  | .zip3, [a, b, c] => (match seqV a, seqV b, seqV c with | some xs, some ys, some zs => some (zip3 xs ys zs) | _, _, _ => none)
  | .enum, [a] => (match seqV a with | some xs => some (enumL 0 xs) | none => none)
  | .items, [.dct _ ks vs] => some (zip2 ks vs)
  | _, _ => none
def setS (ρ : Sl) (i : Nat) (v : PV) : Sl := ρ.set i (some v)
def setMany : List Nat → List PV → Sl → Option Sl
  | [], [], ρ => some ρ
  | i :: is, v :: vs, ρ => setMany is vs (setS ρ i v)
  | _, _, _ => none
def setT (tg : Tg) (v : PV) (ρ : Sl) : Option Sl := match tg with
  | .one i => some (setS ρ i v)
  | .many is => match v with
    | .tup vs => setMany is vs ρ
    | _ => none
def wipeS (ρ : Sl) : List Nat → Sl
  | [] => ρ
  | v :: vs => (wipeS ρ vs).set v none
def bargs : PV → List PV
  | .tup vs => vs
  | _ => []
def R.okB (r : R PV) : Option (Bool × Store) := match r with
  | .ok (.bl b) M => some (b, M)
  | _ => none
def R.val (r : R PV) : Option (PV × Store) := match r with
  | .ok v M => some (v, M)
  | _ => none
/-- a turn of a comprehension -/
def lcTurn (tg : Tg) (own : List Nat) (ρ : Sl) (cond elt : Sl → Store → R PV) (x : PV) (M : Store) : Option (Option PV × Store) := match setT tg x (wipeS ρ own) with
  | none => none
  | some ρ' => match (cond ρ' M).okB with
    | some (true, M2) => (match (elt ρ' M2).val with
      | some (v, M3) => some (some v, M3)
      | none => none)
    | some (false, M2) => some (none, M2)
    | none => none
/-- its loop: items, what stands, a turn's work -/
def lcLoop (f : PV → Store → Option (Option PV × Store)) : List PV → List PV → Store → Option (List PV × Store)
  | [], acc, M => some (acc, M)
  | x :: xs, acc, M => match f x M with
    | some (some y, M') => if acc.length < mostLen then lcLoop f xs (acc ++ [y]) M' else none
    | some (none, M') => lcLoop f xs acc M'
    | none => none
def lcEnd (r : Option (List PV × Store)) : R PV := match r with
  | some (ys, M) => .ok (.lst ys) M
  | none => .bad
def dcTurn (t : Bool) (tg : Tg) (own : List Nat) (ρ : Sl) (cond key val : Sl → Store → R PV) (x : PV) (M : Store) : Option (Option (PV × PV) × Store) := match setT tg x (wipeS ρ own) with
  | none => none
  | some ρ' => match (cond ρ' M).okB with
    | some (true, M2) => (match (key ρ' M2).val with
      | some (a, M3) => (match (val ρ' M3).val with
        | some (v, M4) => if keyOk t a then some (some (a, v), M4) else none
        | none => none)
      | none => none)
    | some (false, M2) => some (none, M2)
    | none => none
def dcLoop (f : PV → Store → Option (Option (PV × PV) × Store)) : List PV → List PV × List PV → Store → Option ((List PV × List PV) × Store)
  | [], d, M => some (d, M)
  | x :: xs, d, M => match f x M with
    | some (some (a, v), M') => if d.1.length < mostLen then dcLoop f xs (dput a v d.1 d.2) M' else none
    | some (none, M') => dcLoop f xs d M'
    | none => none
def dcEnd (t : Bool) (r : Option ((List PV × List PV) × Store)) : R PV := match r with
  | some (d, M) => .ok (.dct t d.1 d.2) M
  | none => .bad
/-- a callee apart: with an empty store, data alone in and out -/
def isoCall (g : List PV → Store → R PV) (vs : List PV) (M : Store) : R PV :=
  if locFL vs then (match g vs [] with
    | .ok v _ => if locF v then .ok v M else .bad
    | .exc x _ => (match x.f with
      | none => .exc x M
      | some (_, v) => if locF v then .exc x M else .bad)
    | .bad => .bad) else .bad
def callV (iso : Bool) (g : List PV → Store → R PV) (vs : List PV) (M : Store) : R PV := if iso then isoCall g vs M else g vs M
/-- a new instance, frozen behind its making -/
def makeV (fz : Bool) (c : Nat) (g : List PV → Store → R PV) (vs : List PV) (M : Store) : R PV :=
  if fz then (if locFL vs then (match g (.loc 0 :: vs) [.ins c [] []] with
    | .ok .non M' => (match (M'[0]? : Option MO) with
      | some (.ins c' ks ws) => if locFL ws && (c' == c) then .ok (.obj c ks ws) M else .bad
      | _ => .bad)
    | .exc x _ => (match x.f with
      | none => .exc x M
      | some (_, v) => if locF v then .exc x M else .bad)
    | _ => .bad) else .bad)
  else (match g (.loc M.length :: vs) (M ++ [.ins c [] []]) with
    | .ok .non M' => .ok (.loc M.length) M'
    | .exc x M' => .exc x M'
    | _ => .bad)
def frzV (v : PV) (M : Store) : R PV := match v with
  | .loc n => (match (M[n]? : Option MO) with
    | some (.lst xs) => .ok (.lst xs) (M.set n .dead)
    | some (.dct t ks vs) => .ok (.dct t ks vs) (M.set n .dead)
    | some (.ins c ks vs) => .ok (.obj c ks vs) (M.set n .dead)
    | _ => .bad)
  | _ => .bad
def hasN (m : Str) : List Str → Bool
  | [] => false
  | k :: ks => decide (m = k) || hasN m ks
/-- the def of a method of an instance -/
def methOf (T : Tabs) (v : PV) (m : Str) (M : Store) : Option Nat := match v with
  | .obj c ks _ => if hasN m ks then none else T.meth c m
  | .loc n => (match (M[n]? : Option MO) with
    | some (.ins c ks _) => if hasN m ks then none else T.meth c m
    | _ => none)
  | _ => none
def kwGet (n : Str) : List Str → List PV → PV
  | k :: ks, v :: vs => if n = k then v else kwGet n ks vs
  | _, _ => .non
/-- the keyword-only parameters, None where they lack -/
def fillK (names ks : List Str) (vs : List PV) : List PV := names.map fun n => kwGet n ks vs
def isNV : PV → Option Bool
  | .non => some true
  | .loc _ => none
  | _ => some false

/-- != of dicts of texts whose values are all True -/
def allT : List PV → Bool
  | [] => true
  | .bl true :: r => allT r
  | _ => false
def dneV : PV → PV → Option Bool
  | .dct false ks vs, .dct false ks' vs' => if allT vs && allT vs' then some (!(ks.length == ks'.length && ks.all fun k => (dget k ks' vs').isSome)) else none
  | _, _ => none
def lenEnd : R PV → R PV
  | .ok (.int n) M => if decide (0 ≤ n) && decide (n < 1000000) then .ok (.int n) M else .bad
  | .exc x M => .exc x M
  | _ => .bad
def ev (T : Tabs) (call : Calls) : SE → Sl → Store → R PV
  | .anil, _, M => .ok (.tup []) M
  | .acons e r, ρ, M => (ev T call e ρ M).bind fun v M1 => (ev T call r ρ M1).bind fun w M2 => .ok (.tup (v :: bargs w)) M2
  | .astar e r, ρ, M => (ev T call e ρ M).bind fun v M1 => match seqV (thaw v M1) with
    | some xs => (ev T call r ρ M1).bind fun w M2 => .ok (.tup (xs ++ bargs w)) M2
    | none => .bad
  | .var i, ρ, M => R.of ((ρ[i]?).bind id) M
  | .cst v, _, M => .ok v M
  | .glb x, _, M => R.of (T.glb x) M
  | .tup r, ρ, M => (ev T call r ρ M).bind fun w M1 => if (bargs w).length ≤ mostLen then .ok (.tup (bargs w)) M1 else .bad
  | .lst m r, ρ, M => (ev T call r ρ M).bind fun w M1 => if (bargs w).length ≤ mostLen then (if m then .ok (.loc M1.length) (M1 ++ [.lst (bargs w)]) else .ok (.lst (bargs w)) M1) else .bad
  | .dct m t ks vs, ρ, M => (match ks, vs with
    | .anil, .anil => if m then .ok (.loc M.length) (M ++ [.dct t [] []]) else .ok (.dct t [] []) M
    | .acons k .anil, .acons v .anil => (ev T call k ρ M).bind fun a M1 => (ev T call v ρ M1).bind fun b M2 => if keyOk t a then (if m then .ok (.loc M2.length) (M2 ++ [.dct t [a] [b]]) else .ok (.dct t [a] [b]) M2) else .bad
    | _, _ => .bad)
  | .bop o a b, ρ, M => (ev T call a ρ M).bind fun x M1 => (ev T call b ρ M1).bind fun y M2 => R.of (bopV o x y) M2
  | .neg a, ρ, M => (ev T call a ρ M).bind fun x M1 => match x with
    | .int i => .ok (.int (-i)) M1
    | _ => .bad
  | .cmp o a b, ρ, M => (ev T call a ρ M).bind fun x M1 => (ev T call b ρ M1).bind fun y M2 => R.ofB (cmpV M2 o x y) M2
  | .chain o o' a b c, ρ, M => (ev T call a ρ M).bind fun x M1 => (ev T call b ρ M1).bind fun y M2 => match cmpV M2 o x y with
    | some true => (ev T call c ρ M2).bind fun z M3 => R.ofB (cmpV M3 o' y z) M3
    | some false => .ok (.bl false) M2
    | none => .bad
  | .isN a, ρ, M => (ev T call a ρ M).bind fun x M1 => R.ofB (isNV x) M1
  | .notT a, ρ, M => (ev T call a ρ M).bind fun x M1 => match x with
    | .bl c => .ok (.bl (!c)) M1
    | _ => .bad
  | .dne a b, ρ, M => (ev T call a ρ M).bind fun x M1 => (ev T call b ρ M1).bind fun y M2 => R.ofB (dneV x y) M2
  | .lenO e, ρ, M => (ev T call e ρ M).bind fun x M1 => match methOf T x "__len__" M1 with
    | some f => lenEnd (callV true (call f) [x] M1)
    | none => .bad
  | .notN a, ρ, M => (ev T call a ρ M).bind fun x M1 => R.ofB ((isNV x).map (!·)) M1
  | .andE a b, ρ, M => (ev T call a ρ M).bind fun x M1 => match x with
    | .bl true => ev T call b ρ M1
    | .bl false => .ok (.bl false) M1
    | _ => .bad
  | .orE a b, ρ, M => (ev T call a ρ M).bind fun x M1 => match x with
    | .bl true => .ok (.bl true) M1
    | .bl false => ev T call b ρ M1
    | _ => .bad
  | .notE a, ρ, M => (ev T call a ρ M).bind fun x M1 => match x with
    | .bl b => .ok (.bl (!b)) M1
    | _ => .bad
  | .ife c a b, ρ, M => (ev T call c ρ M).bind fun x M1 => match x with
    | .bl true => ev T call a ρ M1
    | .bl false => ev T call b ρ M1
    | _ => .bad
  | .attr e f, ρ, M => (ev T call e ρ M).bind fun x M1 => R.of (attrV T f x M1) M1
  | .sub a b, ρ, M => (ev T call a ρ M).bind fun x M1 => (ev T call b ρ M1).bind fun y M2 => R.of (subV x y M2) M2
  | .slc a lo hi, ρ, M => (ev T call a ρ M).bind fun x M1 => (ev T call lo ρ M1).bind fun y M2 => match partV (isAnil lo) y with
    | none => .bad
    | some l => (ev T call hi ρ M2).bind fun z M3 => match partV (isAnil hi) z with
      | none => .bad
      | some h => R.of (slcV x l h M3) M3
  | .rev a, ρ, M => (ev T call a ρ M).bind fun x M1 => (match thaw x M1 with
    | .lst xs => .ok (.lst xs.reverse) M1
    | _ => .bad)
  | .call f iso r, ρ, M => (ev T call r ρ M).bind fun w M1 => callV iso (call f) (bargs w) M1
  | .make c fz r, ρ, M => (ev T call r ρ M).bind fun w M1 => makeV fz c (call (T.init c)) (bargs w) M1
  | .mkK c fz r kr ks, ρ, M => (ev T call r ρ M).bind fun w M1 => (ev T call kr ρ M1).bind fun w2 M2 => if (bargs w2).length == ks.length then makeV fz c (call (T.init c)) (bargs w ++ fillK (T.kwo c) ks (bargs w2)) M2 else .bad
  | .meth e m iso r, ρ, M => (ev T call e ρ M).bind fun x M1 => match methOf T x m M1 with
    | some f => (ev T call r ρ M1).bind fun w M2 => callV iso (call f) (x :: bargs w) M2
    | none => .bad
  | .blt b r, ρ, M => (ev T call r ρ M).bind fun w M1 => bltV b (bargs w) M1
  | .bm e b r, ρ, M => (ev T call e ρ M).bind fun x M1 => if bmOk b x M1 then (ev T call r ρ M1).bind fun w M2 => bmV b x (bargs w) M2 else .bad
  | .isi e ts, ρ, M => (ev T call e ρ M).bind fun x M1 => R.ofB (isiV T x M1 ts) M1
  | .lc elt tg own k it cond, ρ, M => (ev T call it ρ M).bind fun w M1 => match walkV k (bargs w) with
    | none => .bad
    | some items => lcEnd (lcLoop (lcTurn tg own ρ (ev T call cond) (ev T call elt)) items [] M1)
  | .dc t key val tg own k it cond, ρ, M => (ev T call it ρ M).bind fun w M1 => match walkV k (bargs w) with
    | none => .bad
    | some items => dcEnd t (dcLoop (dcTurn t tg own ρ (ev T call cond) (ev T call key) (ev T call val)) items ([], []) M1)
  | .frz e, ρ, M => (ev T call e ρ M).bind fun v M1 => frzV v M1

def forLoop (tg : Tg) (body : Sl → Store → RS) : List PV → Sl → Store → RS
  | [], ρ, M => .nx ρ M
  | x :: xs, ρ, M => match setT tg x ρ with
    | none => .bad
    | some ρ1 => match body ρ1 M with
      | .nx ρ2 M2 => forLoop tg body xs ρ2 M2
      | .ct ρ2 M2 => forLoop tg body xs ρ2 M2
      | .bk ρ2 M2 => .nx ρ2 M2
      | r => r
def whileLoop (cond : Sl → Store → R PV) (body : Sl → Store → RS) : Nat → Sl → Store → RS
  | 0, _, _ => .bad
  | n + 1, ρ, M => match cond ρ M with
    | .ok (.bl true) M1 => (match body ρ M1 with
      | .nx ρ2 M2 => whileLoop cond body n ρ2 M2
      | .ct ρ2 M2 => whileLoop cond body n ρ2 M2
      | .bk ρ2 M2 => .nx ρ2 M2
      | r => r)
    | .ok (.bl false) M1 => .nx ρ M1
    | .exc x M1 => .exc x ρ M1
    | _ => .bad
def setAV (T : Tabs) (o : PV) (f : Str) (v : PV) (M : Store) : Option Store := match o with
  | .loc n => (match (M[n]? : Option MO) with
    | some (.ins c ks vs) => if T.fld c f && decide (ks.length < 900) then some (M.set n (.ins c (fldPut f v ks vs).1 (fldPut f v ks vs).2)) else none
    | _ => none)
  | _ => none
def setAs (T : Tabs) (o : PV) : List Str → List PV → Store → Option Store
  | [], [], M => some M
  | f :: fs, v :: vs, M => (setAV T o f v M).bind fun M1 => setAs T o fs vs M1
  | _, _, _ => none
def setIV (o i v : PV) (M : Store) : Option Store := match o with
  | .loc n => (match (M[n]? : Option MO) with
    | some (.lst xs) => (match i with
      | .int j => (match ixN xs.length j with
        | some k => some (M.set n (.lst (xs.set k v)))
        | none => none)
      | _ => none)
    | some (.dct t ks vs) => if keyOk t i && decide (ks.length < mostLen) then some (M.set n (.dct t (dput i v ks vs).1 (dput i v ks vs).2)) else none
    | _ => none)
  | _ => none
def exec (T : Tabs) (call : Calls) (fuel : Nat) : SS → Sl → Store → RS
  | .nil, ρ, M => .nx ρ M
  | .cons s r, ρ, M => (exec T call fuel s ρ M).then fun ρ1 M1 => exec T call fuel r ρ1 M1
  | .expr e, ρ, M => (ev T call e ρ M).toS ρ fun _ M1 => .nx ρ M1
  | .set i e, ρ, M => (ev T call e ρ M).toS ρ fun v M1 => .nx (setS ρ i v) M1
  | .asg is e, ρ, M => (ev T call e ρ M).toS ρ fun v M1 => match v with
    | .tup vs => (match setMany is vs ρ with | some ρ1 => .nx ρ1 M1 | none => .bad)
    | _ => .bad
  | .par is r, ρ, M => (ev T call r ρ M).toS ρ fun w M1 => match setMany is (bargs w) ρ with | some ρ1 => .nx ρ1 M1 | none => .bad
  | .setA o f e, ρ, M => (ev T call e ρ M).toS ρ fun v M1 => (ev T call o ρ M1).toS ρ fun x M2 => match setAV T x f v M2 with
    | some M3 => .nx ρ M3
    | none => .bad
  | .asgA o fs e, ρ, M => (ev T call e ρ M).toS ρ fun v M1 => match v, (ρ[o]?).bind id with
    | .tup vs, some x => (match setAs T x fs vs M1 with | some M2 => .nx ρ M2 | none => .bad)
    | _, _ => .bad
  | .setI o i e, ρ, M => (ev T call e ρ M).toS ρ fun v M1 => (ev T call o ρ M1).toS ρ fun x M2 => (ev T call i ρ M2).toS ρ fun y M3 => match setIV x y v M3 with
    | some M4 => .nx ρ M4
    | none => .bad
  | .aug i e, ρ, M => match (ρ[i]?).bind id with
    | some (.int a) => (ev T call e ρ M).toS ρ fun v M1 => (match v with | .int b => .nx (setS ρ i (.int (a + b))) M1 | _ => .bad)
    | _ => .bad
  | .ret e, ρ, M => (ev T call e ρ M).toS ρ fun v M1 => .rt v M1
  | .retN, _, M => .rt .non M
  | .ife c a b, ρ, M => (ev T call c ρ M).toS ρ fun v M1 => match v with
    | .bl true => exec T call fuel a ρ M1
    | .bl false => exec T call fuel b ρ M1
    | _ => .bad
  | .forr tg k it b, ρ, M => (ev T call it ρ M).toS ρ fun w M1 => match walkV k (bargs w) with
    | some items => forLoop tg (exec T call fuel b) items ρ M1
    | none => .bad
  | .whil c b, ρ, M => whileLoop (ev T call c) (exec T call fuel b) fuel ρ M
  | .pass, ρ, M => .nx ρ M
  | .cont, ρ, M => .ct ρ M
  | .never, _, _ => .bad
  | .frzV i r, ρ, M => match (ρ[i]?).bind id with
    | some v => (match frzV v M with
      | .ok w M1 => exec T call fuel r (setS ρ i w) M1
      | _ => .bad)
    | none => .bad

structure FD where
  n : Nat          -- parameters
  m : Nat          -- slots
  body : SS
def startS (m : Nat) (vs : List PV) : Sl := vs.map some ++ List.replicate (m - vs.length) none
def runDef (T : Tabs) (call : Calls) (fuel : Nat) (d : FD) (vs : List PV) (M : Store) : R PV :=
  if vs.length == d.n then (match exec T call fuel d.body (startS d.m vs) M with
    | .nx _ M1 => .ok .non M1
    | .rt v M1 => .ok v M1
    | .exc x _ M1 => .exc x M1
    | _ => .bad) else .bad
structure Prg where
  T : Tabs
  fuel : Nat
  df : Nat → Option FD
def run (P : Prg) : Nat → Calls
  | 0, _, _, _ => .bad
  | n + 1, f, vs, M => match P.df f with
    | some d => runDef P.T (run P n) P.fuel d vs M
    | none => .bad
end Zk
-- ZkT
namespace Zk
open PySem
structure Tbl where
  fnL : List (Nat × Str)
  clL : List (Nat × Str)
  mtL : List ((Nat × Str) × Nat)
  inL : List (Nat × Nat)
  flL : List (Nat × Str)
  kwL : List (Nat × List Str)
  npL : List (Nat × Nat)
  glL : List (Str × PV)
  dfL : List (Nat × FD)
def Tbl.tabs (t : Tbl) : Tabs where
  meth := fun c m => t.mtL.lookup (c, m)
  init := fun c => (t.inL.lookup c).getD 0
  fld := fun c f => t.flL.contains (c, f)
  fnm := fun f => t.fnL.lookup f
  cnm := fun c => t.clL.lookup c
  kwo := fun c => (t.kwL.lookup c).getD []
  npo := fun c => (t.npL.lookup c).getD 0
  isi := fun c => (t.clL.lookup c).isSome
  glb := fun x => t.glL.lookup x
def Tbl.prg (t : Tbl) (fuel : Nat) : Prg := ⟨t.tabs, fuel, fun f => t.dfL.lookup f⟩
end Zk
-- ZkW
namespace Zk
open PySem
inductive Wo where
  | run | wait | deeds | names | over | new | on | off | load | again | work | stop | end_ | do_ | fail | empty | next | bell
  | last | first | after | before | back | along | cut | free | onward | drop | uses | lost
  deriving DecidableEq
def Wo.s : Wo → Str
  | .run => "run" | .wait => "wait" | .deeds => "deeds" | .names => "names" | .over => "over" | .new => "new" | .on => "on" | .off => "off" | .load => "load" | .again => "again"
  | .work => "work" | .stop => "stop" | .end_ => "end" | .do_ => "do" | .fail => "fail" | .empty => "empty" | .next => "next" | .bell => "bell" | .last => "last" | .first => "first"
  | .after => "after" | .before => "before" | .back => "back" | .along => "along" | .cut => "cut" | .free => "free" | .onward => "onward" | .drop => "drop" | .uses => "uses" | .lost => "lost"
def Wo.all : List Wo := [.run, .wait, .deeds, .names, .over, .new, .on, .off, .load, .again, .work, .stop, .end_, .do_, .fail, .empty, .next, .bell, .last, .first, .after, .before, .back, .along, .cut, .free, .onward, .drop, .uses, .lost]
theorem Wo.mem_all (a : Wo) : a ∈ Wo.all := by cases a <;> decide
theorem Wo.s_all : (Wo.all.all fun a => Wo.all.all fun b => (a.s == b.s) == decide (a = b)) = true := by decide +kernel
theorem Wo.s_good : (Wo.all.all fun a => strGood a.s) = true := by decide +kernel
theorem Wo.s_beq (a b : Wo) : (a.s == b.s) = decide (a = b) := by
  have h := List.all_eq_true.mp (List.all_eq_true.mp Wo.s_all a (mem_all a)) b (mem_all b)
  exact eq_of_beq h
theorem Wo.good (a : Wo) : strGood a.s = true := List.all_eq_true.mp Wo.s_good a (mem_all a)
end Zk
-- Zp03
namespace Zk.K03
open PySem Zk
def b3 : FD := ⟨3, 3, (.cons (.ret (.andE (.isi (.var 0) [.b 1]) (.andE (.notE (.isi (.var 0) [.b 0])) (.chain .le .le (.var 1) (.var 0) (.var 2))))) .nil)⟩  -- is_number
def b4 : FD := ⟨2, 2, (.cons (.ret (.andE (.isi (.var 0) [.b 2]) (.cmp .inn (.var 0) (.var 1)))) .nil)⟩  -- is_word
def b5 : FD := ⟨2, 5, (.cons (.ife (.isN (.var 1)) (.cons (.ret (.cst (.bl true))) .nil) .nil) (.cons (.ife (.orE (.notE (.isi (.var 1) [.b 3])) (.notE (.blt .all (.acons (.lc (.call 3 true (.acons (.var 4) (.acons (.cst (.int 0)) (.acons (.bop .sub (.var 0) (.cst (.int 1))) .anil)))) (.one 4) [4] .val (.acons (.var 1) .anil) (.cst (.bl true))) .anil)))) (.cons (.ret (.cst (.bl false))) .nil) .nil) (.cons (.ret (.blt .all (.acons (.lc (.cmp .lt (.var 2) (.var 3)) (.many [2, 3]) [2, 3] .zip (.acons (.var 1) (.acons (.slc (.var 1) (.cst (.int 1)) .anil) .anil)) (.cst (.bl true))) .anil))) .nil)))⟩  -- is_lean
def b6 : FD := ⟨1, 2, (.cons (.ife (.orE (.notE (.isi (.var 0) [.b 3])) (.notE (.chain .le .le (.cst (.int 1)) (.blt .len (.acons (.var 0) .anil)) (.glb "MOST_PARTS")))) (.cons (.ret (.cst (.bl false))) .nil) .nil) (.cons (.ret (.blt .all (.acons (.lc (.call 5 true (.acons (.blt .len (.acons (.var 0) .anil)) (.acons (.var 1) .anil))) (.one 1) [1] .val (.acons (.var 0) .anil) (.cst (.bl true))) .anil))) .nil))⟩  -- are_leans
def b7_0 : SS := (.cons (.ife (.notN (.var 3)) (.cons (.ife (.orE (.isN (.var 2)) (.orE (.notE (.call 3 true (.acons (.var 3) (.acons (.cst (.int 0)) (.acons (.bop .sub (.blt .len (.acons (.var 0) .anil)) (.cst (.int 1))) .anil))))) (.isN (.sub (.var 0) (.var 3))))) (.cons (.ret (.cst (.bl false))) .nil) .nil) .nil) .nil) .nil)
def b7 : FD := ⟨2, 4, (.cons (.ife (.orE (.notE (.isi (.var 1) [.b 3])) (.cmp .ne (.blt .len (.acons (.var 1) .anil)) (.blt .len (.acons (.var 0) .anil)))) (.cons (.ret (.cst (.bl false))) .nil) .nil) (.cons (.forr (.many [2, 3]) .zip (.acons (.var 0) (.acons (.var 1) .anil)) b7_0) (.cons (.ret (.cst (.bl true))) .nil)))⟩  -- are_adds
def b8 : FD := ⟨4, 4, (.cons (.ife (.notE (.call 6 true (.acons (.var 1) .anil))) (.cons .never .nil) .nil) (.cons (.ife (.andE (.notN (.var 2)) (.notE (.call 7 true (.acons (.var 1) (.acons (.var 2) .anil))))) (.cons .never .nil) .nil) (.cons (.ife (.andE (.notN (.var 3)) (.notE (.call 3 true (.acons (.var 3) (.acons (.cst (.int 0)) (.acons (.bop .sub (.blt .len (.acons (.var 1) .anil)) (.cst (.int 1))) .anil)))))) (.cons .never .nil) .nil) (.cons (.setA (.var 0) "leans" (.var 1)) (.cons (.setA (.var 0) "adds" (.ife (.isN (.var 2)) (.bop .mul (.tup (.acons (.cst .non) .anil)) (.blt .len (.acons (.var 1) .anil))) (.var 2))) (.cons (.setA (.var 0) "helper" (.var 3)) .nil))))))⟩  -- Plan.__init__
def b10 : FD := ⟨1, 1, (.cons (.ret (.blt .len (.acons (.attr (.var 0) "leans") .anil))) .nil)⟩  -- Plan.__len__
def b14 : FD := ⟨1, 1, (.cons (.ife (.notE (.isi (.var 0) [.c 13])) (.cons .never .nil) .nil) .nil)⟩  -- check_plan
def b15 : FD := ⟨1, 3, (.cons (.ife (.orE (.notE (.isi (.var 0) [.b 3])) (.cmp .ne (.blt .len (.acons (.var 0) .anil)) (.blt .len (.acons (.glb "RULES") .anil)))) (.cons (.ret (.cst (.bl false))) .nil) .nil) (.cons (.ret (.blt .all (.acons (.lc (.call 4 true (.acons (.var 1) (.acons (.var 2) .anil))) (.many [1, 2]) [1, 2] .zip (.acons (.var 0) (.acons (.glb "RULES") .anil)) (.cst (.bl true))) .anil))) .nil))⟩  -- are_rules
def b16 : FD := ⟨2, 2, (.cons (.expr (.call 14 true (.acons (.var 0) .anil))) (.cons (.ife (.notE (.call 15 true (.acons (.var 1) .anil))) (.cons .never .nil) .nil) .nil))⟩  -- check_rules
def b18 : FD := ⟨4, 4, (.cons (.setA (.var 0) "plan" (.var 1)) (.cons (.setA (.var 0) "rules" (.var 2)) (.cons (.asgA 0 ["phase", "loaded", "queue", "emptied", "helper"] (.var 3)) (.cons (.setA (.var 0) "used" (.tup .anil)) (.cons (.setA (.var 0) "is_lost" (.cst (.bl false))) .nil)))))⟩  -- Program.__init__
def b19 : FD := ⟨1, 1, (.cons (.ret (.tup (.acons (.attr (.var 0) "phase") (.acons (.attr (.var 0) "loaded") (.acons (.attr (.var 0) "queue") (.acons (.attr (.var 0) "emptied") (.acons (.attr (.var 0) "helper") .anil))))))) .nil)⟩  -- Program.state_now
def b20 : FD := ⟨2, 2, (.cons (.ife (.cmp .lt (.blt .len (.acons (.attr (.var 0) "queue") .anil)) (.glb "MOST_QUEUE")) (.cons (.setA (.var 0) "queue" (.tup (.astar (.attr (.var 0) "queue") (.acons (.var 1) .anil)))) .nil) .nil) .nil)⟩  -- Program.enqueue
def b21 : FD := ⟨1, 1, (.cons (.setA (.var 0) "phase" (.sub (.call 32 true (.acons (.attr (.var 0) "rules") .anil)) (.cst (.int 0)))) .nil)⟩  -- Program.begin
def b22 : FD := ⟨2, 2, (.cons (.setA (.var 0) "loaded" (.tup (.astar (.attr (.var 0) "loaded") (.acons (.var 1) .anil)))) (.cons (.ife (.notN (.sub (.attr (.attr (.var 0) "plan") "leans") (.var 1))) (.cons (.expr (.meth (.var 0) "enqueue" false (.acons (.var 1) .anil))) .nil) .nil) (.cons (.ife (.cmp .eq (.attr (.attr (.var 0) "plan") "helper") (.var 1)) (.cons (.setA (.var 0) "helper" (.cst (.str Wo.on.s))) .nil) .nil) .nil)))⟩  -- Program.load
def b23 : FD := ⟨1, 1, (.cons (.setA (.var 0) "helper" (.cst (.str Wo.off.s))) (.cons (.ife (.cmp .eq (.attr (.var 0) "phase") (.cst (.str Wo.wait.s))) (.cons (.expr (.meth (.var 0) "begin" false .anil)) .nil) .nil) .nil))⟩  -- Program.stop
def b24 : FD := ⟨1, 1, (.cons (.ife (.andE (.cmp .eq (.attr (.var 0) "helper") (.cst (.str Wo.on.s))) (.cmp .eq (.sub (.attr (.var 0) "rules") (.cst (.int 3))) (.cst (.str Wo.wait.s)))) (.cons (.setA (.var 0) "phase" (.cst (.str Wo.wait.s))) (.cons .retN .nil)) .nil) (.cons (.ife (.andE (.cmp .eq (.attr (.var 0) "helper") (.cst (.str Wo.on.s))) (.cmp .eq (.sub (.attr (.var 0) "rules") (.cst (.int 3))) (.cst (.str Wo.cut.s)))) (.cons (.setA (.var 0) "helper" (.cst (.str Wo.off.s))) .nil) .nil) (.cons (.expr (.meth (.var 0) "begin" false .anil)) .nil)))⟩  -- Program.end
def b25 : FD := ⟨1, 3, (.cons (.set 1 (.ife (.cmp .eq (.sub (.attr (.var 0) "rules") (.cst (.int 0))) (.cst (.str Wo.last.s))) (.bop .sub (.blt .len (.acons (.attr (.var 0) "queue") .anil)) (.cst (.int 1))) (.cst (.int 0)))) (.cons (.set 2 (.sub (.attr (.var 0) "queue") (.var 1))) (.cons (.setA (.var 0) "queue" (.tup (.astar (.slc (.attr (.var 0) "queue") .anil (.var 1)) (.astar (.slc (.attr (.var 0) "queue") (.bop .add (.var 1) (.cst (.int 1))) .anil) .anil)))) (.cons (.ret (.var 2)) .nil))))⟩  -- Program.taken
def b26 : FD := ⟨1, 2, (.cons (.set 1 (.meth (.var 0) "taken" false .anil)) (.cons (.setA (.var 0) "used" (.sub (.attr (.attr (.var 0) "plan") "leans") (.var 1))) (.cons (.ife (.notN (.sub (.attr (.attr (.var 0) "plan") "adds") (.var 1))) (.cons (.expr (.meth (.var 0) "enqueue" false (.acons (.sub (.attr (.attr (.var 0) "plan") "adds") (.var 1)) .anil))) .nil) .nil) .nil)))⟩  -- Program.do_next
def b27 : FD := ⟨1, 1, (.cons (.expr (.meth (.var 0) "taken" false .anil)) (.cons (.ife (.cmp .eq (.sub (.attr (.var 0) "rules") (.cst (.int 4))) (.cst (.str Wo.drop.s))) (.cons (.setA (.var 0) "is_lost" (.cmp .ne (.attr (.var 0) "queue") (.tup .anil))) (.cons (.setA (.var 0) "queue" (.tup .anil)) .nil)) .nil) .nil))⟩  -- Program.fail
def b28 : FD := ⟨1, 3, (.cons (.set 1 (.lc (.var 2) (.one 2) [2] .val (.acons (.attr (.var 0) "loaded") .anil) (.cmp .notin (.var 2) (.attr (.var 0) "emptied")))) (.cons (.set 2 (.ife (.cmp .eq (.sub (.attr (.var 0) "rules") (.cst (.int 2))) (.cst (.str Wo.back.s))) (.sub (.var 1) (.neg (.cst (.int 1)))) (.sub (.var 1) (.cst (.int 0))))) (.cons (.setA (.var 0) "emptied" (.blt .tupl (.acons (.blt .srt (.acons (.lst false (.astar (.attr (.var 0) "emptied") (.acons (.var 2) .anil))) .anil)) .anil))) .nil)))⟩  -- Program.empty
def b29 : FD := ⟨1, 3, (.cons (.asg [1, 2] (.call 32 true (.acons (.attr (.var 0) "rules") .anil))) (.cons (.setA (.var 0) "phase" (.ife (.cmp .eq (.attr (.var 0) "phase") (.var 1)) (.var 2) (.cst (.str Wo.over.s)))) .nil))⟩  -- Program.go_on
def b30 : FD := ⟨2, 3, (.cons (.set 2 (.sub (.var 1) (.cst (.int 0)))) (.cons (.ife (.cmp .eq (.var 2) (.cst (.str Wo.load.s))) (.cons (.expr (.meth (.var 0) "load" false (.acons (.sub (.var 1) (.cst (.int 1))) .anil))) .nil) (.cons (.ife (.cmp .eq (.var 2) (.cst (.str Wo.again.s))) (.cons (.expr (.meth (.var 0) "enqueue" false (.acons (.sub (.var 1) (.cst (.int 1))) .anil))) .nil) (.cons (.ife (.cmp .eq (.var 2) (.cst (.str Wo.work.s))) (.cons (.setA (.var 0) "used" (.tup (.acons (.attr (.attr (.var 0) "plan") "helper") .anil))) .nil) (.cons (.ife (.cmp .eq (.var 2) (.cst (.str Wo.stop.s))) (.cons (.expr (.meth (.var 0) "stop" false .anil)) .nil) (.cons (.ife (.cmp .eq (.var 2) (.cst (.str Wo.end_.s))) (.cons (.expr (.meth (.var 0) "end" false .anil)) .nil) (.cons (.expr (.meth (.var 0) "do_late" false (.acons (.var 2) .anil))) .nil)) .nil)) .nil)) .nil)) .nil)) .nil))⟩  -- Program.do
def b31 : FD := ⟨2, 2, (.cons (.ife (.cmp .eq (.var 1) (.cst (.str Wo.do_.s))) (.cons (.expr (.meth (.var 0) "do_next" false .anil)) .nil) (.cons (.ife (.cmp .eq (.var 1) (.cst (.str Wo.fail.s))) (.cons (.expr (.meth (.var 0) "fail" false .anil)) .nil) (.cons (.ife (.cmp .eq (.var 1) (.cst (.str Wo.empty.s))) (.cons (.expr (.meth (.var 0) "empty" false .anil)) .nil) (.cons (.ife (.cmp .eq (.var 1) (.cst (.str Wo.next.s))) (.cons (.expr (.meth (.var 0) "go_on" false .anil)) .nil) (.cons (.setA (.var 0) "is_lost" (.cmp .ne (.attr (.var 0) "queue") (.tup .anil))) (.cons (.setA (.var 0) "phase" (.cst (.str Wo.over.s))) .nil))) .nil)) .nil)) .nil)) .nil)⟩  -- Program.do_late
def b32 : FD := ⟨1, 1, (.cons (.ret (.ife (.cmp .eq (.sub (.var 0) (.cst (.int 1))) (.cst (.str Wo.after.s))) (.tup (.acons (.cst (.str Wo.deeds.s)) (.acons (.cst (.str Wo.names.s)) .anil))) (.tup (.acons (.cst (.str Wo.names.s)) (.acons (.cst (.str Wo.deeds.s)) .anil))))) .nil)⟩  -- phases_of
def b33 : FD := ⟨1, 1, (.cons (.ret (.tup (.acons (.cst (.str Wo.run.s)) (.acons (.tup .anil) (.acons (.tup .anil) (.acons (.tup .anil) (.acons (.ife (.isN (.attr (.var 0) "helper")) (.cst .non) (.cst (.str Wo.new.s))) .anil))))))) .nil)⟩  -- start_of
def b34 : FD := ⟨2, 6, (.cons (.par [3, 4] (.acons (.blt .lrng (.acons (.lenO (.var 0)) .anil)) (.acons (.sub (.var 1) (.cst (.int 1))) .anil))) (.cons (.set 2 (.lc (.tup (.acons (.cst (.str Wo.load.s)) (.acons (.var 5) .anil))) (.one 5) [5] .val (.acons (.var 3) .anil) (.cmp .notin (.var 5) (.var 4)))) (.cons (.ret (.lst false (.astar (.var 2) (.astar (.lc (.tup (.acons (.cst (.str Wo.again.s)) (.acons (.var 5) .anil))) (.one 5) [5] .val (.acons (.var 3) .anil) (.andE (.cmp .inn (.var 5) (.var 4)) (.notN (.sub (.attr (.var 0) "leans") (.var 5))))) .anil)))) .nil)))⟩  -- run_steps
def b35 : FD := ⟨1, 6, (.cons (.asg [2, 3, 4, 5] (.slc (.var 0) .anil (.cst (.int 4)))) (.cons (.set 1 (.lst false .anil)) (.cons (.ife (.cmp .eq (.var 2) (.cst (.str Wo.deeds.s))) (.cons (.set 1 (.ife (.cmp .ne (.var 4) (.tup .anil)) (.lst false (.acons (.tup (.acons (.cst (.str Wo.do_.s)) .anil)) (.acons (.tup (.acons (.cst (.str Wo.fail.s)) .anil)) .anil))) (.lst false (.acons (.tup (.acons (.cst (.str Wo.next.s)) .anil)) .anil)))) .nil) .nil) (.cons (.ife (.cmp .eq (.var 2) (.cst (.str Wo.names.s))) (.cons (.set 1 (.ife (.cmp .lt (.blt .len (.acons (.var 5) .anil)) (.blt .len (.acons (.var 3) .anil))) (.lst false (.acons (.tup (.acons (.cst (.str Wo.empty.s)) .anil)) .anil)) (.lst false (.acons (.tup (.acons (.cst (.str Wo.next.s)) .anil)) .anil)))) .nil) .nil) (.cons (.ret (.ife (.cmp .inn (.var 2) (.glb "ENDING")) (.lst false (.astar (.var 1) (.acons (.tup (.acons (.cst (.str Wo.bell.s)) .anil)) .anil))) (.var 1))) .nil)))))⟩  -- end_steps
def b36 : FD := ⟨2, 4, (.cons (.par [2, 3] (.acons (.sub (.var 1) (.cst (.int 0))) (.acons (.lst false .anil) .anil))) (.cons (.ife (.cmp .eq (.var 2) (.cst (.str Wo.run.s))) (.cons (.set 3 (.call 34 true (.acons (.var 0) (.acons (.var 1) .anil)))) .nil) .nil) (.cons (.ife (.andE (.cmp .eq (.sub (.var 1) (.cst (.int 4))) (.cst (.str Wo.on.s))) (.cmp .ne (.var 2) (.cst (.str Wo.over.s)))) (.cons (.set 3 (.lst false (.astar (.var 3) (.acons (.tup (.acons (.cst (.str Wo.work.s)) .anil)) (.acons (.tup (.acons (.cst (.str Wo.stop.s)) .anil)) .anil))))) .nil) .nil) (.cons (.ret (.ife (.cmp .eq (.var 2) (.cst (.str Wo.run.s))) (.lst false (.astar (.var 3) (.acons (.tup (.acons (.cst (.str Wo.end_.s)) .anil)) .anil))) (.lst false (.astar (.var 3) (.astar (.call 35 true (.acons (.var 1) .anil)) .anil))))) .nil))))⟩  -- steps_of
def b37 : FD := ⟨4, 5, (.cons (.set 4 (.make 14 false (.acons (.var 0) (.acons (.var 1) (.acons (.var 2) .anil))))) (.cons (.expr (.meth (.var 4) "do" false (.acons (.var 3) .anil))) (.cons (.ret (.frz (.var 4))) .nil)))⟩  -- done
def b38 : FD := ⟨4, 7, (.cons (.par [4, 5] (.acons (.call 37 true (.acons (.var 0) (.acons (.var 1) (.acons (.var 2) (.acons (.var 3) .anil))))) (.acons (.dct true false .anil .anil) .anil))) (.cons (.ife (.blt .any (.acons (.lc (.orE (.cmp .notin (.var 6) (.sub (.var 2) (.cst (.int 1)))) (.cmp .inn (.var 6) (.sub (.var 2) (.cst (.int 3))))) (.one 6) [6] .val (.acons (.attr (.var 4) "used") .anil) (.cst (.bl true))) .anil)) (.cons (.setI (.var 5) (.cst (.str Wo.uses.s)) (.cst (.bl true))) .nil) .nil) (.cons (.ife (.attr (.var 4) "is_lost") (.cons (.setI (.var 5) (.cst (.str Wo.lost.s)) (.cst (.bl true))) .nil) .nil) (.cons (.ret (.frz (.var 5))) .nil))))⟩  -- marks_of
def b39 : FD := ⟨3, 3, (.cons (.ife (.orE (.notE (.isi (.var 2) [.b 3])) (.orE (.notE (.chain .le .le (.cst (.int 1)) (.blt .len (.acons (.var 2) .anil)) (.cst (.int 2)))) (.notE (.isi (.sub (.var 2) (.cst (.int 0))) [.b 2])))) (.cons (.ret (.cst (.bl false))) .nil) .nil) (.cons (.ife (.andE (.cmp .eq (.blt .len (.acons (.var 2) .anil)) (.cst (.int 2))) (.notE (.call 3 true (.acons (.sub (.var 2) (.cst (.int 1))) (.acons (.cst (.int 0)) (.acons (.bop .sub (.lenO (.var 0)) (.cst (.int 1))) .anil)))))) (.cons (.ret (.cst (.bl false))) .nil) .nil) (.cons (.ret (.cmp .inn (.var 2) (.call 36 true (.acons (.var 0) (.acons (.var 1) .anil))))) .nil)))⟩  -- is_step
def b109 : FD := ⟨3, 3, (.cons (.expr (.call 16 true (.acons (.var 0) (.acons (.var 1) .anil)))) (.cons (.expr (.call 16 true (.acons (.var 0) (.acons (.var 2) .anil)))) .nil))⟩  -- check_two
def b110 : FD := ⟨4, 6, (.cons (.ife (.orE (.notE (.call 39 true (.acons (.var 0) (.acons (.sub (.var 2) (.cst (.int 0))) (.acons (.var 3) .anil))))) (.notE (.call 39 true (.acons (.var 0) (.acons (.sub (.var 2) (.cst (.int 1))) (.acons (.var 3) .anil)))))) (.cons (.ret (.cst .non)) .nil) .nil) (.cons (.par [4, 5] (.acons (.call 37 true (.acons (.var 0) (.acons (.sub (.var 1) (.cst (.int 0))) (.acons (.sub (.var 2) (.cst (.int 0))) (.acons (.var 3) .anil))))) (.acons (.call 37 true (.acons (.var 0) (.acons (.sub (.var 1) (.cst (.int 1))) (.acons (.sub (.var 2) (.cst (.int 1))) (.acons (.var 3) .anil))))) .anil))) (.cons (.ife (.orE (.cmp .ne (.attr (.var 4) "used") (.attr (.var 5) "used")) (.dne (.call 38 true (.acons (.var 0) (.acons (.sub (.var 1) (.cst (.int 0))) (.acons (.sub (.var 2) (.cst (.int 0))) (.acons (.var 3) .anil))))) (.call 38 true (.acons (.var 0) (.acons (.sub (.var 1) (.cst (.int 1))) (.acons (.sub (.var 2) (.cst (.int 1))) (.acons (.var 3) .anil))))))) (.cons (.ret (.cst .non)) .nil) .nil) (.cons (.ret (.tup (.acons (.meth (.var 4) "state_now" true .anil) (.acons (.meth (.var 5) "state_now" true .anil) .anil)))) .nil))))⟩  -- both_behind
def b111 : FD := ⟨2, 4, (.cons (.set 2 (.call 36 true (.acons (.var 0) (.acons (.sub (.var 1) (.cst (.int 0))) .anil)))) (.cons (.ret (.lst false (.astar (.var 2) (.astar (.lc (.var 3) (.one 3) [3] .val (.acons (.call 36 true (.acons (.var 0) (.acons (.sub (.var 1) (.cst (.int 1))) .anil))) .anil) (.cmp .notin (.var 3) (.var 2))) .anil)))) .nil))⟩  -- any_steps
def b112 : FD := ⟨2, 2, (.cons (.setA (.var 0) "pairs" (.blt .lstF (.acons (.var 1) .anil))) .nil)⟩  -- Alike.__init__
def b114_0 : SS := (.cons (.ife (.notE (.blt .all (.acons (.lc (.cmp .inn (.call 110 true (.acons (.var 1) (.acons (.tup (.acons (.var 2) (.acons (.var 3) .anil))) (.acons (.var 5) (.acons (.var 6) .anil))))) (.var 4)) (.one 6) [6] .val (.acons (.call 111 true (.acons (.var 1) (.acons (.var 5) .anil))) .anil) (.cst (.bl true))) .anil))) (.cons (.ret (.cst (.bl false))) .nil) .nil) .nil)
def b114 : FD := ⟨4, 7, (.cons (.expr (.call 109 true (.acons (.var 1) (.acons (.var 2) (.acons (.var 3) .anil))))) (.cons (.set 4 (.dc true (.var 5) (.cst (.bl true)) (.one 5) [5] .val (.acons (.attr (.var 0) "pairs") .anil) (.cst (.bl true)))) (.cons (.ife (.cmp .notin (.tup (.acons (.call 33 true (.acons (.var 1) .anil)) (.acons (.call 33 true (.acons (.var 1) .anil)) .anil))) (.var 4)) (.cons (.ret (.cst (.bl false))) .nil) .nil) (.cons (.forr (.one 5) .val (.acons (.var 4) .anil) b114_0) (.cons (.ret (.cst (.bl true))) .nil)))))⟩  -- Alike.shows
def b115 : FD := ⟨2, 2, (.cons (.setA (.var 0) "course" (.blt .tupl (.acons (.var 1) .anil))) .nil)⟩  -- Parted.__init__
def b117_0 : SS := (.cons (.set 4 (.call 110 true (.acons (.var 1) (.acons (.tup (.acons (.var 2) (.acons (.var 3) .anil))) (.acons (.var 4) (.acons (.var 5) .anil)))))) (.cons (.ife (.isN (.var 4)) (.cons (.ret (.cst (.bl false))) .nil) .nil) .nil))
def b117 : FD := ⟨4, 7, (.cons (.expr (.call 109 true (.acons (.var 1) (.acons (.var 2) (.acons (.var 3) .anil))))) (.cons (.ife (.cmp .eq (.blt .len (.acons (.attr (.var 0) "course") .anil)) (.cst (.int 0))) (.cons (.ret (.cst (.bl false))) .nil) .nil) (.cons (.set 4 (.tup (.acons (.call 33 true (.acons (.var 1) .anil)) (.acons (.call 33 true (.acons (.var 1) .anil)) .anil)))) (.cons (.forr (.one 5) .val (.acons (.slc (.attr (.var 0) "course") .anil (.neg (.cst (.int 1)))) .anil) b117_0) (.cons (.set 6 (.sub (.attr (.var 0) "course") (.neg (.cst (.int 1))))) (.cons (.ife (.andE (.notE (.call 39 true (.acons (.var 1) (.acons (.sub (.var 4) (.cst (.int 0))) (.acons (.var 6) .anil))))) (.notE (.call 39 true (.acons (.var 1) (.acons (.sub (.var 4) (.cst (.int 1))) (.acons (.var 6) .anil)))))) (.cons (.ret (.cst (.bl false))) .nil) .nil) (.cons (.ret (.isN (.call 110 true (.acons (.var 1) (.acons (.tup (.acons (.var 2) (.acons (.var 3) .anil))) (.acons (.var 4) (.acons (.var 6) .anil))))))) .nil)))))))⟩  -- Parted.shows
def b118_0 : SE := (.cmp .ne (.var 6) (.lst false .anil))
def b118_1 : SS := (.cons (.set 9 (.call 110 true (.acons (.var 0) (.acons (.tup (.acons (.var 1) (.acons (.var 2) .anil))) (.acons (.var 7) (.acons (.var 8) .anil)))))) (.cons (.ife (.andE (.isN (.var 9)) (.isN (.var 4))) (.cons (.set 4 (.tup (.astar (.sub (.var 5) (.var 7)) (.acons (.var 8) .anil)))) .nil) .nil) (.cons (.ife (.andE (.notN (.var 9)) (.cmp .notin (.var 9) (.var 5))) (.cons (.ife (.cmp .eq (.blt .len (.acons (.var 5) .anil)) (.glb "MOST_STATES")) (.cons .never .nil) .nil) (.cons (.setI (.var 5) (.var 9) (.tup (.astar (.sub (.var 5) (.var 7)) (.acons (.var 8) .anil)))) (.cons (.expr (.bm (.var 6) .append (.acons (.var 9) .anil))) .nil))) .nil) .nil)))
def b118_2 : SS := (.cons (.set 7 (.bm (.var 6) .popAt (.acons (.cst (.int 0)) .anil))) (.cons (.forr (.one 8) .val (.acons (.call 111 true (.acons (.var 0) (.acons (.var 7) .anil))) .anil) b118_1) .nil))
def b118 : FD := ⟨3, 10, (.cons (.expr (.call 109 true (.acons (.var 0) (.acons (.var 1) (.acons (.var 2) .anil))))) (.cons (.par [3, 4] (.acons (.tup (.acons (.call 33 true (.acons (.var 0) .anil)) (.acons (.call 33 true (.acons (.var 0) .anil)) .anil))) (.acons (.cst .non) .anil))) (.cons (.par [5, 6] (.acons (.dct true true (.acons (.var 3) .anil) (.acons (.tup .anil) .anil)) (.acons (.lst true (.acons (.var 3) .anil)) .anil))) (.cons (.whil b118_0 b118_2) (.cons (.ret (.ife (.isN (.var 4)) (.make 22 true (.acons (.frz (.var 5)) .anil)) (.make 23 true (.acons (.var 4) .anil)))) .nil)))))⟩  -- compare
def b119 : FD := ⟨3, 3, (.cons (.ret (.isi (.call 118 true (.acons (.var 0) (.acons (.var 1) (.acons (.var 2) .anil)))) [.c 22])) .nil)⟩  -- are_alike
def b120 : FD := ⟨3, 4, (.cons (.set 3 (.call 118 true (.acons (.var 0) (.acons (.var 1) (.acons (.var 2) .anil))))) (.cons (.ret (.ife (.isi (.var 3) [.c 23]) (.blt .len (.acons (.attr (.var 3) "course") .anil)) (.cst .non))) .nil))⟩  -- first_parting
def b349 : FD := ⟨2, 2, (.cons (.ife (.cmp .lt (.var 1) (.blt .len (.acons (.var 0) .anil))) (.cons (.ret (.sub (.var 0) (.var 1))) .nil) .nil) (.cons (.ret (.cst (.int 0))) .nil))⟩  -- _law_cell_at
def b350 : FD := ⟨3, 4, (.cons (.set 3 (.tup (.acons (.cst (.int 1000003)) (.acons (.cst (.int 1000033)) (.acons (.cst (.int 1000037)) (.acons (.cst (.int 1000039)) (.acons (.cst (.int 1000081)) (.acons (.cst (.int 1000099)) (.acons (.cst (.int 1000117)) (.acons (.cst (.int 1000121)) (.acons (.cst (.int 1000133)) (.acons (.cst (.int 1000151)) (.acons (.cst (.int 1000159)) (.acons (.cst (.int 1000171)) (.acons (.cst (.int 1000183)) (.acons (.cst (.int 1000187)) (.acons (.cst (.int 1000193)) (.acons (.cst (.int 1000199)) .anil)))))))))))))))))) (.cons (.ret (.bop .mod (.blt .intI (.acons (.bop .mod (.blt .intI (.acons (.bop .add (.bop .mul (.var 0) (.cst (.int 48271))) (.bop .mul (.var 1) (.cst (.int 69621)))) .anil)) (.sub (.var 3) (.bop .mod (.blt .intI (.acons (.var 1) .anil)) (.cst (.int 16))))) .anil)) (.var 2))) .nil))⟩  -- _law_draw
def b351_0 : SS := (.cons (.set 3 (.bop .mul (.var 3) (.cst (.int 1009)))) .nil)
def b351 : FD := ⟨3, 8, (.cons (.set 3 (.cst (.int 1))) (.cons (.forr (.one 4) .range (.acons (.bop .mod (.blt .intI (.acons (.var 1) .anil)) (.cst (.int 24))) .anil) b351_0) (.cons (.set 5 (.bop .fdiv (.bop .sub (.var 0) (.bop .pow (.cst (.int 10)) (.cst (.int 18)))) (.var 3))) (.cons (.ife (.cmp .gt (.var 5) (.cst (.int 0))) (.cons (.ret (.bop .mod (.blt .intI (.acons (.bop .mod (.blt .intI (.acons (.var 5) .anil)) (.cst (.int 1009))) .anil)) (.var 2))) .nil) .nil) (.cons (.set 6 (.bop .mod (.blt .intI (.acons (.var 0) .anil)) (.cst (.int 1000003)))) (.cons (.set 7 (.bop .mul (.bop .add (.var 6) (.bop .mul (.cst (.int 977)) (.var 1))) (.bop .add (.bop .add (.var 6) (.bop .mul (.cst (.int 31)) (.var 1))) (.cst (.int 5))))) (.cons (.ret (.bop .mod (.blt .intI (.acons (.call 350 true (.acons (.var 7) (.acons (.bop .add (.bop .mod (.blt .intI (.acons (.var 1) .anil)) (.cst (.int 9))) (.cst (.int 1))) (.acons (.cst (.int 999983)) .anil)))) .anil)) (.var 2))) .nil)))))))⟩  -- _law_number
def b352 : FD := ⟨2, 4, (.cons (.setI (.var 0) (.cst (.int 2)) (.bop .add (.sub (.var 0) (.cst (.int 2))) (.cst (.int 1)))) (.cons (.set 2 (.bop .fdiv (.sub (.var 0) (.cst (.int 2))) (.cst (.int 12)))) (.cons (.set 3 (.bop .add (.call 349 true (.acons (.sub (.var 0) (.cst (.int 0))) (.acons (.bop .add (.sub (.var 0) (.cst (.int 1))) (.var 2)) .anil))) (.bop .mul (.cst (.int 31)) (.var 2)))) (.cons (.ret (.call 351 true (.acons (.var 3) (.acons (.bop .add (.bop .mod (.blt .intI (.acons (.sub (.var 0) (.cst (.int 2))) .anil)) (.cst (.int 12))) (.cst (.int 1))) (.acons (.var 1) .anil))))) .nil))))⟩  -- _law_next
def b353 : FD := ⟨2, 2, (.cons (.ret (.sub (.var 1) (.call 352 false (.acons (.var 0) (.acons (.blt .len (.acons (.var 1) .anil)) .anil))))) .nil)⟩  -- _law_pick
def b354_0 : SS := (.cons (.set 8 (.andE (.notN (.sub (.var 3) (.var 4))) (.cmp .eq (.call 352 false (.acons (.var 0) (.acons (.cst (.int 4)) .anil))) (.cst (.int 0))))) (.cons (.expr (.bm (.var 6) .append (.acons (.ife (.var 8) (.call 353 false (.acons (.var 0) (.acons (.var 7) .anil))) (.cst .non)) .anil))) .nil))
def b354_1 : SS := (.cons (.set 5 (.blt .tupl (.acons (.lc (.var 9) (.one 9) [9] .range (.acons (.var 2) .anil) (.cmp .eq (.call 352 false (.acons (.var 0) (.acons (.cst (.int 3)) .anil))) (.cst (.int 0)))) .anil))) (.cons (.expr (.bm (.var 3) .append (.acons (.ife (.cmp .eq (.call 352 false (.acons (.var 0) (.acons (.cst (.int 4)) .anil))) (.cst (.int 0))) (.cst .non) (.var 5)) .anil))) .nil))
def b354 : FD := ⟨2, 10, (.cons (.set 2 (.bop .add (.cst (.int 1)) (.call 352 false (.acons (.var 0) (.acons (.var 1) .anil))))) (.cons (.set 3 (.lst true .anil)) (.cons (.forr (.one 4) .range (.acons (.var 2) .anil) b354_1) (.cons (.par [6, 7] (.acons (.lst true .anil) (.acons (.lc (.var 4) (.one 4) [4] .range (.acons (.var 2) .anil) (.notN (.sub (.var 3) (.var 4)))) .anil))) (.cons (.forr (.one 4) .range (.acons (.var 2) .anil) b354_0) (.cons (.ret (.tup (.acons (.blt .tupl (.acons (.var 3) .anil)) (.acons (.blt .tupl (.acons (.var 6) .anil)) (.acons (.call 353 false (.acons (.var 0) (.acons (.lst false (.acons (.cst .non) (.acons (.cst (.int 0)) (.acons (.bop .sub (.var 2) (.cst (.int 1))) .anil)))) .anil))) .anil))))) .nil))))))⟩  -- _law_plan
def b355 : FD := ⟨1, 1, (.cons (.ret (.mkK 13 true (.acons (.sub (.var 0) (.cst (.int 0))) .anil) (.acons (.sub (.var 0) (.cst (.int 1))) (.acons (.sub (.var 0) (.cst (.int 2))) .anil)) ["adds", "helper"])) .nil)⟩  -- _law_made
def b356 : FD := ⟨1, 5, (.cons (.par [1, 2] (.acons (.call 353 false (.acons (.var 0) (.acons (.lst false (.acons (.cst (.str Wo.last.s)) (.acons (.cst (.str Wo.first.s)) .anil))) .anil))) (.acons (.call 353 false (.acons (.var 0) (.acons (.lst false (.acons (.cst (.str Wo.after.s)) (.acons (.cst (.str Wo.before.s)) .anil))) .anil))) .anil))) (.cons (.par [3, 4] (.acons (.call 353 false (.acons (.var 0) (.acons (.lst false (.acons (.cst (.str Wo.back.s)) (.acons (.cst (.str Wo.along.s)) .anil))) .anil))) (.acons (.call 353 false (.acons (.var 0) (.acons (.lst false (.acons (.cst (.str Wo.wait.s)) (.acons (.cst (.str Wo.cut.s)) (.acons (.cst (.str Wo.free.s)) .anil)))) .anil))) .anil))) (.cons (.ret (.tup (.acons (.var 1) (.acons (.var 2) (.acons (.var 3) (.acons (.var 4) (.acons (.call 353 false (.acons (.var 0) (.acons (.lst false (.acons (.cst (.str Wo.onward.s)) (.acons (.cst (.str Wo.drop.s)) .anil))) .anil))) .anil))))))) .nil)))⟩  -- _law_words
def b357 : FD := ⟨1, 1, (.cons (.ret (.tup (.acons (.cst (.str Wo.run.s)) (.acons (.tup .anil) (.acons (.tup .anil) (.acons (.tup .anil) (.acons (.ife (.isN (.sub (.var 0) (.cst (.int 2)))) (.cst .non) (.cst (.str Wo.new.s))) .anil))))))) .nil)⟩  -- _law_begin
def b358 : FD := ⟨3, 12, (.cons (.asg [4, 5, 6, 7, 8] (.var 1)) (.cons (.set 3 (.lst false .anil)) (.cons (.ife (.cmp .eq (.var 4) (.cst (.str Wo.run.s))) (.cons (.set 3 (.lc (.tup (.acons (.cst (.str Wo.load.s)) (.acons (.var 11) .anil))) (.one 11) [11] .range (.acons (.blt .len (.acons (.sub (.var 0) (.cst (.int 0))) .anil)) .anil) (.cmp .notin (.var 11) (.var 5)))) (.cons (.set 9 (.lc (.var 11) (.one 11) [11] .range (.acons (.blt .len (.acons (.sub (.var 0) (.cst (.int 0))) .anil)) .anil) (.andE (.cmp .inn (.var 11) (.var 5)) (.notN (.sub (.sub (.var 0) (.cst (.int 0))) (.var 11)))))) (.cons (.set 3 (.bop .add (.var 3) (.lc (.tup (.acons (.cst (.str Wo.again.s)) (.acons (.var 11) .anil))) (.one 11) [11] .val (.acons (.var 9) .anil) (.cst (.bl true))))) .nil))) .nil) (.cons (.ife (.andE (.cmp .eq (.var 8) (.cst (.str Wo.on.s))) (.cmp .ne (.var 4) (.cst (.str Wo.over.s)))) (.cons (.set 3 (.bop .add (.var 3) (.lst false (.acons (.tup (.acons (.cst (.str Wo.work.s)) .anil)) (.acons (.tup (.acons (.cst (.str Wo.stop.s)) .anil)) .anil))))) .nil) .nil) (.cons (.ife (.cmp .eq (.var 4) (.cst (.str Wo.run.s))) (.cons (.ret (.bop .add (.var 3) (.lst false (.acons (.tup (.acons (.cst (.str Wo.end_.s)) .anil)) .anil)))) .nil) .nil) (.cons (.ife (.cmp .eq (.var 4) (.cst (.str Wo.deeds.s))) (.cons (.set 3 (.bop .add (.var 3) (.ife (.cmp .ne (.var 6) (.tup .anil)) (.lst false (.acons (.tup (.acons (.cst (.str Wo.do_.s)) .anil)) (.acons (.tup (.acons (.cst (.str Wo.fail.s)) .anil)) .anil))) (.lst false (.acons (.tup (.acons (.cst (.str Wo.next.s)) .anil)) .anil))))) .nil) .nil) (.cons (.ife (.cmp .eq (.var 4) (.cst (.str Wo.names.s))) (.cons (.set 10 (.lc (.var 11) (.one 11) [11] .val (.acons (.var 5) .anil) (.andE (.cmp .notin (.var 11) (.var 7)) (.cmp .notin (.var 11) (.var 2))))) (.cons (.set 3 (.bop .add (.var 3) (.ife (.cmp .ne (.var 10) (.lst false .anil)) (.lst false (.acons (.tup (.acons (.cst (.str Wo.empty.s)) .anil)) .anil)) (.lst false (.acons (.tup (.acons (.cst (.str Wo.next.s)) .anil)) .anil))))) .nil)) .nil) (.cons (.ret (.bop .add (.var 3) (.ife (.cmp .ne (.var 4) (.cst (.str Wo.over.s))) (.lst false (.acons (.tup (.acons (.cst (.str Wo.bell.s)) .anil)) .anil)) (.lst false .anil)))) .nil))))))))⟩  -- _law_steps
def b359 : FD := ⟨2, 2, (.cons (.ret (.ife (.andE (.notN (.var 1)) (.cmp .lt (.blt .len (.acons (.var 0) .anil)) (.cst (.int 3)))) (.bop .add (.var 0) (.tup (.acons (.var 1) .anil))) (.var 0))) .nil)⟩  -- _law_with
def b360 : FD := ⟨5, 15, (.cons (.asg [9, 10, 11, 12, 13] (.var 2)) (.cons (.set 5 (.ife (.cmp .eq (.sub (.var 1) (.cst (.int 1))) (.cst (.str Wo.after.s))) (.lst false (.acons (.cst (.str Wo.deeds.s)) (.acons (.cst (.str Wo.names.s)) .anil))) (.lst false (.acons (.cst (.str Wo.names.s)) (.acons (.cst (.str Wo.deeds.s)) .anil))))) (.cons (.ife (.cmp .eq (.var 3) (.cst (.str Wo.next.s))) (.cons (.ret (.tup (.acons (.tup (.acons (.ife (.cmp .eq (.var 9) (.sub (.var 5) (.cst (.int 0)))) (.sub (.var 5) (.cst (.int 1))) (.cst (.str Wo.over.s))) (.acons (.var 10) (.acons (.var 11) (.acons (.var 12) (.acons (.var 13) .anil)))))) (.acons (.tup .anil) (.acons (.cst (.bl false)) .anil))))) .nil) .nil) (.cons (.ife (.cmp .eq (.var 3) (.cst (.str Wo.bell.s))) (.cons (.ret (.tup (.acons (.tup (.acons (.cst (.str Wo.over.s)) (.acons (.var 10) (.acons (.var 11) (.acons (.var 12) (.acons (.var 13) .anil)))))) (.acons (.tup .anil) (.acons (.cmp .ne (.var 11) (.tup .anil)) .anil))))) .nil) .nil) (.cons (.ife (.cmp .eq (.var 3) (.cst (.str Wo.empty.s))) (.cons (.set 14 (.lc (.var 6) (.one 6) [6] .val (.acons (.var 10) .anil) (.andE (.cmp .notin (.var 6) (.var 12)) (.cmp .notin (.var 6) (.var 4))))) (.cons (.set 12 (.blt .tupl (.acons (.blt .srt (.acons (.bop .add (.var 12) (.tup (.acons (.ife (.cmp .eq (.sub (.var 1) (.cst (.int 2))) (.cst (.str Wo.back.s))) (.sub (.var 14) (.neg (.cst (.int 1)))) (.sub (.var 14) (.cst (.int 0)))) .anil))) .anil)) .anil))) (.cons (.ret (.tup (.acons (.tup (.acons (.var 9) (.acons (.var 10) (.acons (.var 11) (.acons (.var 12) (.acons (.var 13) .anil)))))) (.acons (.tup .anil) (.acons (.cst (.bl false)) .anil))))) .nil))) .nil) (.cons (.set 6 (.ife (.cmp .eq (.sub (.var 1) (.cst (.int 0))) (.cst (.str Wo.last.s))) (.sub (.var 11) (.neg (.cst (.int 1)))) (.sub (.var 11) (.cst (.int 0))))) (.cons (.set 7 (.ife (.cmp .eq (.sub (.var 1) (.cst (.int 0))) (.cst (.str Wo.last.s))) (.slc (.var 11) .anil (.neg (.cst (.int 1)))) (.slc (.var 11) (.cst (.int 1)) .anil))) (.cons (.ife (.cmp .eq (.var 3) (.cst (.str Wo.do_.s))) (.cons (.ret (.tup (.acons (.tup (.acons (.var 9) (.acons (.var 10) (.acons (.call 359 true (.acons (.var 7) (.acons (.sub (.sub (.var 0) (.cst (.int 1))) (.var 6)) .anil))) (.acons (.var 12) (.acons (.var 13) .anil)))))) (.acons (.sub (.sub (.var 0) (.cst (.int 0))) (.var 6)) (.acons (.cst (.bl false)) .anil))))) .nil) .nil) (.cons (.set 8 (.cmp .eq (.sub (.var 1) (.cst (.int 4))) (.cst (.str Wo.drop.s)))) (.cons (.ret (.tup (.acons (.tup (.acons (.var 9) (.acons (.var 10) (.acons (.ife (.var 8) (.tup .anil) (.var 7)) (.acons (.var 12) (.acons (.var 13) .anil)))))) (.acons (.tup .anil) (.acons (.andE (.var 8) (.cmp .ne (.var 7) (.tup .anil))) .anil))))) .nil))))))))))⟩  -- _law_did_late
def b361 : FD := ⟨5, 20, (.cons (.asg [8, 9, 10, 11, 12] (.var 2)) (.cons (.par [13, 14, 15] (.acons (.sub (.var 3) (.cst (.int 0))) (.acons (.tup .anil) (.acons (.cst (.bl false)) .anil)))) (.cons (.set 5 (.ife (.cmp .eq (.sub (.var 1) (.cst (.int 1))) (.cst (.str Wo.after.s))) (.cst (.str Wo.deeds.s)) (.cst (.str Wo.names.s)))) (.cons (.ife (.cmp .eq (.var 13) (.cst (.str Wo.load.s))) (.cons (.set 16 (.call 359 true (.acons (.var 10) (.acons (.ife (.notN (.sub (.sub (.var 0) (.cst (.int 0))) (.sub (.var 3) (.cst (.int 1))))) (.sub (.var 3) (.cst (.int 1))) (.cst .non)) .anil)))) (.cons (.set 17 (.tup (.acons (.var 8) (.acons (.bop .add (.var 9) (.tup (.acons (.sub (.var 3) (.cst (.int 1))) .anil))) (.acons (.var 16) (.acons (.var 11) (.acons (.ife (.cmp .eq (.sub (.var 0) (.cst (.int 2))) (.sub (.var 3) (.cst (.int 1)))) (.cst (.str Wo.on.s)) (.var 12)) .anil))))))) .nil)) (.cons (.ife (.cmp .eq (.var 13) (.cst (.str Wo.again.s))) (.cons (.set 17 (.tup (.acons (.var 8) (.acons (.var 9) (.acons (.call 359 true (.acons (.var 10) (.acons (.sub (.var 3) (.cst (.int 1))) .anil))) (.acons (.var 11) (.acons (.var 12) .anil))))))) .nil) (.cons (.ife (.cmp .eq (.var 13) (.cst (.str Wo.work.s))) (.cons (.par [17, 14] (.acons (.var 2) (.acons (.tup (.acons (.sub (.var 0) (.cst (.int 2))) .anil)) .anil))) .nil) (.cons (.ife (.cmp .eq (.var 13) (.cst (.str Wo.stop.s))) (.cons (.set 17 (.tup (.acons (.ife (.cmp .eq (.var 8) (.cst (.str Wo.wait.s))) (.var 5) (.var 8)) (.acons (.var 9) (.acons (.var 10) (.acons (.var 11) (.acons (.cst (.str Wo.off.s)) .anil))))))) .nil) (.cons (.ife (.cmp .eq (.var 13) (.cst (.str Wo.end_.s))) (.cons (.set 19 (.andE (.cmp .eq (.var 12) (.cst (.str Wo.on.s))) (.cmp .eq (.sub (.var 1) (.cst (.int 3))) (.cst (.str Wo.wait.s))))) (.cons (.set 16 (.ife (.andE (.cmp .eq (.var 12) (.cst (.str Wo.on.s))) (.cmp .eq (.sub (.var 1) (.cst (.int 3))) (.cst (.str Wo.cut.s)))) (.cst (.str Wo.off.s)) (.var 12))) (.cons (.set 17 (.tup (.acons (.ife (.var 19) (.cst (.str Wo.wait.s)) (.var 5)) (.acons (.var 9) (.acons (.var 10) (.acons (.var 11) (.acons (.var 16) .anil))))))) .nil))) (.cons (.asg [17, 14, 15] (.call 360 true (.acons (.var 0) (.acons (.var 1) (.acons (.var 2) (.acons (.var 13) (.acons (.var 4) .anil))))))) .nil)) .nil)) .nil)) .nil)) .nil)) (.cons (.set 6 (.lc (.var 18) (.one 18) [18] .val (.acons (.var 14) .anil) (.orE (.cmp .notin (.var 18) (.var 9)) (.cmp .inn (.var 18) (.var 11))))) (.cons (.set 7 (.ife (.cmp .ne (.var 6) (.lst false .anil)) (.lst false (.acons (.cst (.str Wo.uses.s)) .anil)) (.lst false .anil))) (.cons (.ret (.tup (.acons (.var 17) (.acons (.var 14) (.acons (.bop .add (.var 7) (.ife (.var 15) (.lst false (.acons (.cst (.str Wo.lost.s)) .anil)) (.lst false .anil))) .anil))))) .nil)))))))⟩  -- _law_did
def b362 : FD := ⟨3, 5, (.cons (.ife (.orE (.cmp .notin (.var 2) (.call 358 true (.acons (.sub (.var 0) (.cst (.int 0))) (.acons (.sub (.var 1) (.cst (.int 0))) (.acons (.tup .anil) .anil))))) (.cmp .notin (.var 2) (.call 358 true (.acons (.sub (.var 0) (.cst (.int 0))) (.acons (.sub (.var 1) (.cst (.int 1))) (.acons (.tup .anil) .anil)))))) (.cons (.ret (.cst .non)) .nil) .nil) (.cons (.par [3, 4] (.acons (.call 361 true (.acons (.sub (.var 0) (.cst (.int 0))) (.acons (.sub (.var 0) (.cst (.int 1))) (.acons (.sub (.var 1) (.cst (.int 0))) (.acons (.var 2) (.acons (.tup .anil) .anil)))))) (.acons (.call 361 true (.acons (.sub (.var 0) (.cst (.int 0))) (.acons (.sub (.var 0) (.cst (.int 2))) (.acons (.sub (.var 1) (.cst (.int 1))) (.acons (.var 2) (.acons (.tup .anil) .anil)))))) .anil))) (.cons (.ret (.ife (.cmp .eq (.slc (.var 3) (.cst (.int 1)) .anil) (.slc (.var 4) (.cst (.int 1)) .anil)) (.tup (.acons (.sub (.var 3) (.cst (.int 0))) (.acons (.sub (.var 4) (.cst (.int 0))) .anil))) (.cst .non))) .nil)))⟩  -- _law_both
def b363 : FD := ⟨2, 4, (.cons (.set 2 (.call 358 true (.acons (.sub (.var 0) (.cst (.int 0))) (.acons (.sub (.var 1) (.cst (.int 0))) (.acons (.tup .anil) .anil))))) (.cons (.ret (.bop .add (.var 2) (.lc (.var 3) (.one 3) [3] .val (.acons (.call 358 true (.acons (.sub (.var 0) (.cst (.int 0))) (.acons (.sub (.var 1) (.cst (.int 1))) (.acons (.tup .anil) .anil)))) .anil) (.cmp .notin (.var 3) (.var 2))))) .nil))⟩  -- _law_any
def b364_0 : SE := (.cmp .lt (.var 4) (.blt .len (.acons (.var 3) .anil)))
def b364_1 : SS := (.cons (.set 7 (.call 362 true (.acons (.var 0) (.acons (.sub (.var 3) (.var 4)) (.acons (.var 6) .anil))))) (.cons (.ife (.andE (.isN (.var 7)) (.isN (.var 5))) (.cons (.set 5 (.bop .add (.sub (.var 2) (.sub (.var 3) (.var 4))) (.cst (.int 1)))) .nil) .nil) (.cons (.ife (.andE (.notN (.var 7)) (.cmp .notin (.var 7) (.var 2))) (.cons (.setI (.var 2) (.var 7) (.bop .add (.sub (.var 2) (.sub (.var 3) (.var 4))) (.cst (.int 1)))) (.cons (.expr (.bm (.var 3) .append (.acons (.var 7) .anil))) .nil)) .nil) .nil)))
def b364_2 : SS := (.cons (.forr (.one 6) .val (.acons (.call 363 true (.acons (.var 0) (.acons (.sub (.var 3) (.var 4)) .anil))) .anil) b364_1) (.cons (.ife (.cmp .gt (.blt .len (.acons (.var 3) .anil)) (.cst (.int 300))) (.cons (.ret (.cst .non)) .nil) .nil) (.cons (.set 4 (.bop .add (.var 4) (.cst (.int 1)))) .nil)))
def b364 : FD := ⟨1, 8, (.cons (.set 1 (.tup (.acons (.call 357 true (.acons (.sub (.var 0) (.cst (.int 0))) .anil)) (.acons (.call 357 true (.acons (.sub (.var 0) (.cst (.int 0))) .anil)) .anil)))) (.cons (.par [2, 3, 4, 5] (.acons (.dct true true (.acons (.var 1) .anil) (.acons (.cst (.int 0)) .anil)) (.acons (.lst true (.acons (.var 1) .anil)) (.acons (.cst (.int 0)) (.acons (.cst .non) .anil))))) (.cons (.whil b364_0 b364_2) (.cons (.ret (.tup (.acons (.frz (.var 3)) (.acons (.var 5) .anil)))) .nil))))⟩  -- _law_pairs
def b365_0 : SS := (.cons (.ife (.notE (.blt .all (.acons (.lc (.cmp .inn (.call 362 true (.acons (.var 0) (.acons (.var 3) (.acons (.var 4) .anil)))) (.var 2)) (.one 4) [4] .val (.acons (.call 363 true (.acons (.var 0) (.acons (.var 3) .anil))) .anil) (.cst (.bl true))) .anil))) (.cons (.ret (.cst (.bl false))) .nil) .nil) .nil)
def b365 : FD := ⟨2, 5, (.cons (.set 2 (.blt .dctP (.acons (.lc (.tup (.acons (.var 3) (.acons (.cst (.int 1)) .anil))) (.one 3) [3] .val (.acons (.var 1) .anil) (.cst (.bl true))) .anil))) (.cons (.ife (.cmp .notin (.tup (.acons (.call 357 true (.acons (.sub (.var 0) (.cst (.int 0))) .anil)) (.acons (.call 357 true (.acons (.sub (.var 0) (.cst (.int 0))) .anil)) .anil))) (.var 2)) (.cons (.ret (.cst (.bl false))) .nil) .nil) (.cons (.forr (.one 3) .val (.acons (.var 2) .anil) b365_0) (.cons (.ret (.cst (.bl true))) .nil))))⟩  -- _law_are_alike
def b366_0 : SS := (.cons (.set 2 (.call 362 true (.acons (.var 0) (.acons (.var 2) (.acons (.var 3) .anil))))) (.cons (.ife (.isN (.var 2)) (.cons (.ret (.cst (.bl false))) .nil) .nil) .nil))
def b366 : FD := ⟨2, 4, (.cons (.set 2 (.tup (.acons (.call 357 true (.acons (.sub (.var 0) (.cst (.int 0))) .anil)) (.acons (.call 357 true (.acons (.sub (.var 0) (.cst (.int 0))) .anil)) .anil)))) (.cons (.forr (.one 3) .val (.acons (.slc (.var 1) .anil (.neg (.cst (.int 1)))) .anil) b366_0) (.cons (.ife (.orE (.cmp .eq (.blt .len (.acons (.var 1) .anil)) (.cst (.int 0))) (.cmp .notin (.sub (.var 1) (.neg (.cst (.int 1)))) (.call 363 true (.acons (.var 0) (.acons (.var 2) .anil))))) (.cons (.ret (.cst (.bl false))) .nil) .nil) (.cons (.ret (.isN (.call 362 true (.acons (.var 0) (.acons (.var 2) (.acons (.sub (.var 1) (.neg (.cst (.int 1)))) .anil)))))) .nil))))⟩  -- _law_is_parted
def b367 : FD := ⟨2, 5, (.cons (.set 2 (.call 352 false (.acons (.var 0) (.acons (.cst (.int 6)) .anil)))) (.cons (.set 3 (.blt .lstM (.acons (.var 1) .anil))) (.cons (.set 4 (.call 356 false (.acons (.var 0) .anil))) (.cons (.ife (.cmp .eq (.var 2) (.cst (.int 5))) (.cons (.ret (.var 4)) .nil) .nil) (.cons (.setI (.var 3) (.var 2) (.sub (.var 4) (.var 2))) (.cons (.ret (.blt .tupl (.acons (.var 3) .anil))) .nil))))))⟩  -- _law_near
def b368_0 : SS := (.cons (.ife (.cmp .ne (.meth (.make 23 true (.acons (.var 5) .anil)) "shows" true (.acons (.var 1) (.acons (.var 6) (.acons (.var 7) .anil)))) (.call 366 true (.acons (.var 2) (.acons (.var 5) .anil)))) (.cons (.ret (.cst (.bl false))) .nil) .nil) .nil)
def b368_1 : SS := (.cons (.ife (.cmp .ne (.meth (.make 22 true (.acons (.var 3) .anil)) "shows" true (.acons (.var 1) (.acons (.var 6) (.acons (.var 7) .anil)))) (.call 365 true (.acons (.var 2) (.acons (.var 3) .anil)))) (.cons (.ret (.cst (.bl false))) .nil) .nil) .nil)
def b368 : FD := ⟨3, 13, (.cons (.par [6, 7, 8] (.acons (.sub (.var 2) (.cst (.int 1))) (.acons (.sub (.var 2) (.cst (.int 2))) (.acons (.call 364 true (.acons (.var 2) .anil)) .anil)))) (.cons (.ife (.isN (.var 8)) (.cons (.ret (.cst (.bl true))) .nil) .nil) (.cons (.asg [9, 10] (.var 8)) (.cons (.ife (.orE (.cmp .ne (.call 120 true (.acons (.var 1) (.acons (.var 6) (.acons (.var 7) .anil)))) (.var 10)) (.cmp .ne (.call 119 true (.acons (.var 1) (.acons (.var 6) (.acons (.var 7) .anil)))) (.isN (.var 10)))) (.cons (.ret (.cst (.bl false))) .nil) .nil) (.cons (.par [11, 12] (.acons (.call 118 true (.acons (.var 1) (.acons (.var 6) (.acons (.var 7) .anil)))) (.acons (.call 352 false (.acons (.var 0) (.acons (.blt .len (.acons (.var 9) .anil)) .anil))) .anil))) (.cons (.ife (.orE (.notT (.meth (.var 11) "shows" true (.acons (.var 1) (.acons (.var 6) (.acons (.var 7) .anil))))) (.cmp .ne (.isi (.var 11) [.c 22]) (.isN (.var 10)))) (.cons (.ret (.cst (.bl false))) .nil) .nil) (.cons (.forr (.one 3) .val (.acons (.tup (.acons (.var 9) (.acons (.bop .add (.rev (.var 9)) (.slc (.var 9) .anil (.cst (.int 1)))) (.acons (.bop .add (.slc (.var 9) .anil (.var 12)) (.slc (.var 9) (.bop .add (.var 12) (.cst (.int 1))) .anil)) (.acons (.lst false .anil) .anil))))) .anil) b368_1) (.cons (.ife (.andE (.isN (.var 10)) (.notE (.call 365 true (.acons (.var 2) (.acons (.attr (.var 11) "pairs") .anil))))) (.cons (.ret (.cst (.bl false))) .nil) .nil) (.cons (.set 4 (.ife (.isN (.var 10)) (.lst false (.acons (.tup (.acons (.cst (.str Wo.end_.s)) .anil)) (.acons (.tup (.acons (.cst (.str Wo.next.s)) .anil)) .anil))) (.blt .lstF (.acons (.attr (.var 11) "course") .anil)))) (.cons (.ife (.andE (.notN (.var 10)) (.notE (.call 366 true (.acons (.var 2) (.acons (.var 4) .anil))))) (.cons (.ret (.cst (.bl false))) .nil) .nil) (.cons (.forr (.one 5) .val (.acons (.tup (.acons (.var 4) (.acons (.slc (.var 4) .anil (.neg (.cst (.int 1)))) (.acons (.slc (.var 4) (.cst (.int 1)) .anil) (.acons (.bop .add (.var 4) (.lst false (.acons (.tup (.acons (.cst (.str Wo.bell.s)) .anil)) .anil))) (.acons (.bop .add (.lst false (.acons (.tup (.acons (.cst (.str Wo.load.s)) (.acons (.cst (.int 0)) .anil))) .anil)) (.var 4)) (.acons (.lst false .anil) .anil))))))) .anil) b368_0) (.cons (.ret (.cst (.bl true))) .nil))))))))))))⟩  -- _law_rig_right
def b369_0 : SS := (.cons (.par [3, 4] (.acons (.call 354 false (.acons (.var 1) (.acons (.cst (.int 2)) .anil))) (.acons (.call 356 false (.acons (.var 1) .anil)) .anil))) (.cons (.ife (.notE (.call 368 false (.acons (.var 1) (.acons (.call 355 true (.acons (.var 3) .anil)) (.acons (.tup (.acons (.var 3) (.acons (.var 4) (.acons (.call 367 false (.acons (.var 1) (.acons (.var 4) .anil))) .anil)))) .anil))))) (.cons (.ret (.cst (.bl false))) .nil) .nil) .nil))
def b369 : FD := ⟨1, 5, (.cons (.set 1 (.lst true (.acons (.slc (.var 0) .anil (.cst (.int 63))) (.acons (.cst (.int 0)) (.acons (.cst (.int 0)) .anil))))) (.cons (.forr (.one 2) .range (.acons (.cst (.int 3)) .anil) b369_0) (.cons (.ret (.cst (.bl true))) .nil)))⟩  -- law
def t : Tbl where
  fnL := [(3, (Str.ofString "is_number")), (4, (Str.ofString "is_word")), (5, (Str.ofString "is_lean")), (6, (Str.ofString "are_leans")), (7, (Str.ofString "are_adds")), (14, (Str.ofString "check_plan")), (15, (Str.ofString "are_rules")), (16, (Str.ofString "check_rules")), (32, (Str.ofString "phases_of")), (33, (Str.ofString "start_of")), (34, (Str.ofString "run_steps")), (35, (Str.ofString "end_steps")), (36, (Str.ofString "steps_of")), (37, (Str.ofString "done")), (38, (Str.ofString "marks_of")), (39, (Str.ofString "is_step")), (109, (Str.ofString "check_two")), (110, (Str.ofString "both_behind")), (111, (Str.ofString "any_steps")), (118, (Str.ofString "compare")), (119, (Str.ofString "are_alike")), (120, (Str.ofString "first_parting")), (349, (Str.ofString "_law_cell_at")), (350, (Str.ofString "_law_draw")), (351, (Str.ofString "_law_number")), (352, (Str.ofString "_law_next")), (353, (Str.ofString "_law_pick")), (354, (Str.ofString "_law_plan")), (355, (Str.ofString "_law_made")), (356, (Str.ofString "_law_words")), (357, (Str.ofString "_law_begin")), (358, (Str.ofString "_law_steps")), (359, (Str.ofString "_law_with")), (360, (Str.ofString "_law_did_late")), (361, (Str.ofString "_law_did")), (362, (Str.ofString "_law_both")), (363, (Str.ofString "_law_any")), (364, (Str.ofString "_law_pairs")), (365, (Str.ofString "_law_are_alike")), (366, (Str.ofString "_law_is_parted")), (367, (Str.ofString "_law_near")), (368, (Str.ofString "_law_rig_right")), (369, (Str.ofString "law"))]
  clL := [(13, (Str.ofString "Plan")), (14, (Str.ofString "Program")), (22, (Str.ofString "Alike")), (23, (Str.ofString "Parted"))]
  mtL := [((13, (Str.ofString "__len__")), 10), ((14, (Str.ofString "state_now")), 19), ((14, (Str.ofString "enqueue")), 20), ((14, (Str.ofString "begin")), 21), ((14, (Str.ofString "load")), 22), ((14, (Str.ofString "stop")), 23), ((14, (Str.ofString "end")), 24), ((14, (Str.ofString "taken")), 25), ((14, (Str.ofString "do_next")), 26), ((14, (Str.ofString "fail")), 27), ((14, (Str.ofString "empty")), 28), ((14, (Str.ofString "go_on")), 29), ((14, (Str.ofString "do")), 30), ((14, (Str.ofString "do_late")), 31), ((22, (Str.ofString "shows")), 114), ((23, (Str.ofString "shows")), 117)]
  inL := [(13, 8), (14, 18), (22, 112), (23, 115)]
  flL := [(13, (Str.ofString "leans")), (13, (Str.ofString "adds")), (13, (Str.ofString "helper")), (14, (Str.ofString "plan")), (14, (Str.ofString "rules")), (14, (Str.ofString "used")), (14, (Str.ofString "is_lost")), (14, (Str.ofString "phase")), (14, (Str.ofString "loaded")), (14, (Str.ofString "helper")), (14, (Str.ofString "queue")), (14, (Str.ofString "emptied")), (22, (Str.ofString "pairs")), (23, (Str.ofString "course"))]
  kwL := [(13, [(Str.ofString "adds"), (Str.ofString "helper")])]
  npL := [(13, 1)]
  glL := [((Str.ofString "MOST_PARTS"), (.int 3)), ((Str.ofString "RULES"), (.tup [(.tup [(.str Wo.last.s), (.str Wo.first.s)]), (.tup [(.str Wo.after.s), (.str Wo.before.s)]), (.tup [(.str Wo.back.s), (.str Wo.along.s)]), (.tup [(.str Wo.wait.s), (.str Wo.cut.s), (.str Wo.free.s)]), (.tup [(.str Wo.onward.s), (.str Wo.drop.s)])])), ((Str.ofString "MOST_STATES"), (.int 600)), ((Str.ofString "MOST_QUEUE"), (.int 3)), ((Str.ofString "ENDING"), (.tup [(.str Wo.wait.s), (.str Wo.deeds.s), (.str Wo.names.s)]))]
  dfL := [(3, b3), (4, b4), (5, b5), (6, b6), (7, b7), (8, b8), (10, b10), (14, b14), (15, b15), (16, b16), (18, b18), (19, b19), (20, b20), (21, b21), (22, b22), (23, b23), (24, b24), (25, b25), (26, b26), (27, b27), (28, b28), (29, b29), (30, b30), (31, b31), (32, b32), (33, b33), (34, b34), (35, b35), (36, b36), (37, b37), (38, b38), (39, b39), (109, b109), (110, b110), (111, b111), (112, b112), (114, b114), (115, b115), (117, b117), (118, b118), (119, b119), (120, b120), (349, b349), (350, b350), (351, b351), (352, b352), (353, b353), (354, b354), (355, b355), (356, b356), (357, b357), (358, b358), (359, b359), (360, b360), (361, b361), (362, b362), (363, b363), (364, b364), (365, b365), (366, b366), (367, b367), (368, b368), (369, b369)]
def P : Prg := t.prg 100000
end Zk.K03
-- ZkH
namespace Zk
open PySem PySem.Spec PyProof.Rows L2
def bltNm : List Str := ["len", "all", "any", "sum", "max", "abs", "int", "list", "tuple", "sorted", "range", "isinstance", "bool", "str", "dict", "zip", "enumerate"]
mutual
def pvB (K : PySem.W.Frag) : PV → Value → Bool
  | .non, u => He.relB .non u
  | .bl b, u => He.relB (.bl b) u
  | .int i, u => He.relB (.int i) u
  | .str x, u => He.relB (.str x) u
  | .tup xs, u => (match u with
    | .ref a => (match K.lookup a with
      | some ⟨.type c, _, .seq its _, _⟩ => decide (c = "tuple") && (decide (its.size ≤ sizeLine) && pvLB K xs its.toList)
      | _ => false)
    | _ => false)
  | _, _ => false
def pvLB (K : PySem.W.Frag) : List PV → List Value → Bool
  | [], us => us.isEmpty
  | x :: xs, us => (match us with
    | u :: us => pvB K x u && pvLB K xs us
    | [] => false)
end
/-- a def: its id, its place in the program, its names, our form of it -/
structure Ent where
  f : Nat
  D : He.DefD
  N : List Str
  d : FD
def Ent.ps (e : Ent) : List Str := e.N.take e.d.n
def entOf (es : List Ent) (f : Nat) : Option Ent := es.find? fun e => e.f == f
def atOf (es : List Ent) (f : Nat) : Str × Option Str := match entOf es f with
  | some e => e.D.at_
  | none => ("", none)
def psOf (es : List Ent) (f : Nat) : List Str := match entOf es f with
  | some e => e.ps
  | none => []
def cnOf (t : Tbl) (c : Nat) : Str := (t.clL.lookup c).getD ""
def Tbl.fa (t : Tbl) : List He.Fa :=
  t.fnL.map (fun p => .glo p.2) ++ (t.fnL.map (fun p => .keep p.2) ++ (t.clL.map (fun p => .glo p.2) ++ (t.clL.map (fun p => .cls p.2) ++ (t.clL.map (fun p => .mkr p.2) ++ (t.mtL.map (fun p => .meth (cnOf t p.1.1) p.1.2) ++ (t.flL.map (fun p => .noat (cnOf t p.1) p.2) ++ bltNm.map .free))))))
def isi1B (K : PySem.W.Frag) (x : Str) : Bool := decide (PySem.W.findIn K (.ref (He.ga K x)) "__class__" = some (some (.builtin "object.__class__"))) && decide (PySem.W.mroIn K (He.ga K x) (.type "object") = some true)
def ty7 : List String := ["NoneType", "bool", "int", "str", "tuple", "list", "dict"]
def isiB (K : PySem.W.Frag) (cs : List (Nat × Str)) : Bool :=
  decide (PySem.W.specialIn K (.builtin "object.__class__") "__get__" = some (some (.builtin "getset_descriptor.__get__"))) && (decide (PySem.W.takesIn K (.builtin "object.__class__") = some true) && cs.all fun c => isi1B K c.2 && (ty7.all (fun n => decide (PySem.W.kitOne K (.type n) (.ref (He.ga K c.2)) = some false)) && (ty7.all (fun n => decide (PySem.W.kitOne K (.ref (He.ga K c.2)) (.type n) = some false)) && cs.all fun c' => decide (PySem.W.kitOne K (.ref (He.ga K c.2)) (.ref (He.ga K c'.2)) = some (c'.1 == c.1)))))
def glbB (K : PySem.W.Frag) (gs : List (Str × PV)) : Bool := gs.all fun q => match PySem.W.nsIn K mainGlobals q.1 with
  | some (some u) => pvB K q.2 u
  | _ => false
def Tbl.ex (t : Tbl) (K : PySem.W.Frag) : Bool := isiB K t.clL && glbB K t.glL
end Zk
-- Zh03
set_option maxHeartbeats 0
namespace Zk.K03
open PySem PySem.Spec PyProof.Rows L2
abbrev prog : Program := PySem.Challenge.pw_enddeeds_k03_whole_alike
def top (i : Nat) : Stmt := prog.main.body.getD i (.Pass ⟨0, 0, 0, 0⟩)
def sub (i j : Nat) : Stmt := match top i with
  | .ClassDef _ _ _ body _ _ _ _ _ _ _ => body.getD j (.Pass ⟨0, 0, 0, 0⟩)
  | s => s
def e3 : Ent := ⟨3, ⟨("is_number", none), "is_number", "is_number", defArgs (top 9), defBody (top 9), defScope (top 9), [], []⟩, ["thing", "low", "high"], b3⟩
def e4 : Ent := ⟨4, ⟨("is_word", none), "is_word", "is_word", defArgs (top 10), defBody (top 10), defScope (top 10), [], []⟩, ["thing", "words"], b4⟩
def e5 : Ent := ⟨5, ⟨("is_lean", none), "is_lean", "is_lean", defArgs (top 11), defBody (top 11), defScope (top 11), [], []⟩, ["many", "thing", "one", "other", "part"], b5⟩
def e6 : Ent := ⟨6, ⟨("are_leans", none), "are_leans", "are_leans", defArgs (top 12), defBody (top 12), defScope (top 12), [], []⟩, ["thing", "one"], b6⟩
def e7 : Ent := ⟨7, ⟨("are_adds", none), "are_adds", "are_adds", defArgs (top 13), defBody (top 13), defScope (top 13), [], []⟩, ["leans", "thing", "lean", "late"], b7⟩
def e8 : Ent := ⟨8, ⟨("Plan", some "__init__"), "__init__", "Plan.__init__", defArgs (sub 14 0), defBody (sub 14 0), defScope (sub 14 0), [], [("adds", .non), ("helper", .non)]⟩, ["self", "leans", "adds", "helper"], b8⟩
def e10 : Ent := ⟨10, ⟨("Plan", some "__len__"), "__len__", "Plan.__len__", defArgs (sub 14 2), defBody (sub 14 2), defScope (sub 14 2), [], []⟩, ["self"], b10⟩
def e14 : Ent := ⟨14, ⟨("check_plan", none), "check_plan", "check_plan", defArgs (top 15), defBody (top 15), defScope (top 15), [], []⟩, ["plan"], b14⟩
def e15 : Ent := ⟨15, ⟨("are_rules", none), "are_rules", "are_rules", defArgs (top 16), defBody (top 16), defScope (top 16), [], []⟩, ["thing", "word", "words"], b15⟩
def e16 : Ent := ⟨16, ⟨("check_rules", none), "check_rules", "check_rules", defArgs (top 17), defBody (top 17), defScope (top 17), [], []⟩, ["plan", "rules"], b16⟩
def e18 : Ent := ⟨18, ⟨("Program", some "__init__"), "__init__", "Program.__init__", defArgs (sub 22 0), defBody (sub 22 0), defScope (sub 22 0), [], []⟩, ["self", "plan", "rules", "state"], b18⟩
def e19 : Ent := ⟨19, ⟨("Program", some "state_now"), "state_now", "Program.state_now", defArgs (sub 22 1), defBody (sub 22 1), defScope (sub 22 1), [], []⟩, ["self"], b19⟩
def e20 : Ent := ⟨20, ⟨("Program", some "enqueue"), "enqueue", "Program.enqueue", defArgs (sub 22 2), defBody (sub 22 2), defScope (sub 22 2), [], []⟩, ["self", "part"], b20⟩
def e21 : Ent := ⟨21, ⟨("Program", some "begin"), "begin", "Program.begin", defArgs (sub 22 3), defBody (sub 22 3), defScope (sub 22 3), [], []⟩, ["self"], b21⟩
def e22 : Ent := ⟨22, ⟨("Program", some "load"), "load", "Program.load", defArgs (sub 22 4), defBody (sub 22 4), defScope (sub 22 4), [], []⟩, ["self", "part"], b22⟩
def e23 : Ent := ⟨23, ⟨("Program", some "stop"), "stop", "Program.stop", defArgs (sub 22 5), defBody (sub 22 5), defScope (sub 22 5), [], []⟩, ["self"], b23⟩
def e24 : Ent := ⟨24, ⟨("Program", some "end"), "end", "Program.end", defArgs (sub 22 6), defBody (sub 22 6), defScope (sub 22 6), [], []⟩, ["self"], b24⟩
def e25 : Ent := ⟨25, ⟨("Program", some "taken"), "taken", "Program.taken", defArgs (sub 22 7), defBody (sub 22 7), defScope (sub 22 7), [], []⟩, ["self", "at", "part"], b25⟩
def e26 : Ent := ⟨26, ⟨("Program", some "do_next"), "do_next", "Program.do_next", defArgs (sub 22 8), defBody (sub 22 8), defScope (sub 22 8), [], []⟩, ["self", "part"], b26⟩
def e27 : Ent := ⟨27, ⟨("Program", some "fail"), "fail", "Program.fail", defArgs (sub 22 9), defBody (sub 22 9), defScope (sub 22 9), [], []⟩, ["self"], b27⟩
def e28 : Ent := ⟨28, ⟨("Program", some "empty"), "empty", "Program.empty", defArgs (sub 22 10), defBody (sub 22 10), defScope (sub 22 10), [], []⟩, ["self", "left", "part"], b28⟩
def e29 : Ent := ⟨29, ⟨("Program", some "go_on"), "go_on", "Program.go_on", defArgs (sub 22 11), defBody (sub 22 11), defScope (sub 22 11), [], []⟩, ["self", "first", "second"], b29⟩
def e30 : Ent := ⟨30, ⟨("Program", some "do"), "do", "Program.do", defArgs (sub 22 12), defBody (sub 22 12), defScope (sub 22 12), [], []⟩, ["self", "step", "word"], b30⟩
def e31 : Ent := ⟨31, ⟨("Program", some "do_late"), "do_late", "Program.do_late", defArgs (sub 22 13), defBody (sub 22 13), defScope (sub 22 13), [], []⟩, ["self", "word"], b31⟩
def e32 : Ent := ⟨32, ⟨("phases_of", none), "phases_of", "phases_of", defArgs (top 23), defBody (top 23), defScope (top 23), [], []⟩, ["rules"], b32⟩
def e33 : Ent := ⟨33, ⟨("start_of", none), "start_of", "start_of", defArgs (top 24), defBody (top 24), defScope (top 24), [], []⟩, ["plan"], b33⟩
def e34 : Ent := ⟨34, ⟨("run_steps", none), "run_steps", "run_steps", defArgs (top 25), defBody (top 25), defScope (top 25), [], []⟩, ["plan", "state", "found", "every", "loaded", "part"], b34⟩
def e35 : Ent := ⟨35, ⟨("end_steps", none), "end_steps", "end_steps", defArgs (top 26), defBody (top 26), defScope (top 26), [], []⟩, ["state", "found", "phase", "loaded", "queue", "emptied"], b35⟩
def e36 : Ent := ⟨36, ⟨("steps_of", none), "steps_of", "steps_of", defArgs (top 27), defBody (top 27), defScope (top 27), [], []⟩, ["plan", "state", "phase", "found"], b36⟩
def e37 : Ent := ⟨37, ⟨("done", none), "done", "done", defArgs (top 28), defBody (top 28), defScope (top 28), [], []⟩, ["plan", "rules", "state", "step", "program"], b37⟩
def e38 : Ent := ⟨38, ⟨("marks_of", none), "marks_of", "marks_of", defArgs (top 29), defBody (top 29), defScope (top 29), [], []⟩, ["plan", "rules", "state", "step", "program", "found", "part"], b38⟩
def e39 : Ent := ⟨39, ⟨("is_step", none), "is_step", "is_step", defArgs (top 30), defBody (top 30), defScope (top 30), [], []⟩, ["plan", "state", "thing"], b39⟩
def e109 : Ent := ⟨109, ⟨("check_two", none), "check_two", "check_two", defArgs (top 32), defBody (top 32), defScope (top 32), [], []⟩, ["plan", "one", "other"], b109⟩
def e110 : Ent := ⟨110, ⟨("both_behind", none), "both_behind", "both_behind", defArgs (top 33), defBody (top 33), defScope (top 33), [], []⟩, ["plan", "two", "pair", "step", "mine", "theirs"], b110⟩
def e111 : Ent := ⟨111, ⟨("any_steps", none), "any_steps", "any_steps", defArgs (top 34), defBody (top 34), defScope (top 34), [], []⟩, ["plan", "pair", "mine", "step"], b111⟩
def e112 : Ent := ⟨112, ⟨("Alike", some "__init__"), "__init__", "Alike.__init__", defArgs (sub 35 0), defBody (sub 35 0), defScope (sub 35 0), [], []⟩, ["self", "pairs"], b112⟩
def e114 : Ent := ⟨114, ⟨("Alike", some "shows"), "shows", "Alike.shows", defArgs (sub 35 2), defBody (sub 35 2), defScope (sub 35 2), [], []⟩, ["self", "plan", "one", "other", "known", "pair", "step"], b114⟩
def e115 : Ent := ⟨115, ⟨("Parted", some "__init__"), "__init__", "Parted.__init__", defArgs (sub 36 0), defBody (sub 36 0), defScope (sub 36 0), [], []⟩, ["self", "course"], b115⟩
def e117 : Ent := ⟨117, ⟨("Parted", some "shows"), "shows", "Parted.shows", defArgs (sub 36 2), defBody (sub 36 2), defScope (sub 36 2), [], []⟩, ["self", "plan", "one", "other", "pair", "step", "last"], b117⟩
def e118 : Ent := ⟨118, ⟨("compare", none), "compare", "compare", defArgs (top 37), defBody (top 37), defScope (top 37), [], []⟩, ["plan", "one", "other", "begin", "parting", "found", "line", "pair", "step", "late"], b118⟩
def e119 : Ent := ⟨119, ⟨("are_alike", none), "are_alike", "are_alike", defArgs (top 38), defBody (top 38), defScope (top 38), [], []⟩, ["plan", "one", "other"], b119⟩
def e120 : Ent := ⟨120, ⟨("first_parting", none), "first_parting", "first_parting", defArgs (top 39), defBody (top 39), defScope (top 39), [], []⟩, ["plan", "one", "other", "found"], b120⟩
def e349 : Ent := ⟨349, ⟨("_law_cell_at", none), "_law_cell_at", "_law_cell_at", defArgs (top 41), defBody (top 41), defScope (top 41), [], []⟩, ["_law_script", "_law_k"], b349⟩
def e350 : Ent := ⟨350, ⟨("_law_draw", none), "_law_draw", "_law_draw", defArgs (top 42), defBody (top 42), defScope (top 42), [], []⟩, ["_law_cell", "_law_k", "_law_bound", "_law_primes"], b350⟩
def e351 : Ent := ⟨351, ⟨("_law_number", none), "_law_number", "_law_number", defArgs (top 43), defBody (top 43), defScope (top 43), [], []⟩, ["_law_cell", "_law_k", "_law_bound", "_law_power", "_law_times", "_law_rest", "_law_small", "_law_blend"], b351⟩
def e352 : Ent := ⟨352, ⟨("_law_next", none), "_law_next", "_law_next", defArgs (top 44), defBody (top 44), defScope (top 44), [], []⟩, ["_law_draw_here", "_law_bound", "_law_at", "_law_cell"], b352⟩
def e353 : Ent := ⟨353, ⟨("_law_pick", none), "_law_pick", "_law_pick", defArgs (top 45), defBody (top 45), defScope (top 45), [], []⟩, ["_law_draw_here", "_law_things"], b353⟩
def e354 : Ent := ⟨354, ⟨("_law_plan", none), "_law_plan", "_law_plan", defArgs (top 46), defBody (top 46), defScope (top 46), [], []⟩, ["_law_draw_here", "_law_upto", "_law_many", "_law_rows", "_law_part", "_law_some", "_law_more", "_law_owners", "_law_is_more", "_law_one"], b354⟩
def e355 : Ent := ⟨355, ⟨("_law_made", none), "_law_made", "_law_made", defArgs (top 47), defBody (top 47), defScope (top 47), [], []⟩, ["_law_model"], b355⟩
def e356 : Ent := ⟨356, ⟨("_law_words", none), "_law_words", "_law_words", defArgs (top 48), defBody (top 48), defScope (top 48), [], []⟩, ["_law_draw_here", "_law_first", "_law_second", "_law_third", "_law_fourth"], b356⟩
def e357 : Ent := ⟨357, ⟨("_law_begin", none), "_law_begin", "_law_begin", defArgs (top 49), defBody (top 49), defScope (top 49), [], []⟩, ["_law_model"], b357⟩
def e358 : Ent := ⟨358, ⟨("_law_steps", none), "_law_steps", "_law_steps", defArgs (top 50), defBody (top 50), defScope (top 50), [], []⟩, ["_law_model", "_law_state", "_law_lot", "_law_found", "_law_phase", "_law_known", "_law_queue", "_law_gone", "_law_hand", "_law_some", "_law_left", "_law_part"], b358⟩
def e359 : Ent := ⟨359, ⟨("_law_with", none), "_law_with", "_law_with", defArgs (top 51), defBody (top 51), defScope (top 51), [], []⟩, ["_law_queue", "_law_part"], b359⟩
def e360 : Ent := ⟨360, ⟨("_law_did_late", none), "_law_did_late", "_law_did_late", defArgs (top 52), defBody (top 52), defScope (top 52), [], []⟩, ["_law_model", "_law_words_here", "_law_state", "_law_word", "_law_lot", "_law_row", "_law_part", "_law_rest", "_law_is_drop", "_law_phase", "_law_known", "_law_queue", "_law_gone", "_law_hand", "_law_left"], b360⟩
def e361 : Ent := ⟨361, ⟨("_law_did", none), "_law_did", "_law_did", defArgs (top 53), defBody (top 53), defScope (top 53), [], []⟩, ["_law_model", "_law_words_here", "_law_state", "_law_step", "_law_lot", "_law_row", "_law_bad", "_law_marks", "_law_phase", "_law_known", "_law_queue", "_law_gone", "_law_hand", "_law_word", "_law_into", "_law_is_lost", "_law_late", "_law_behind_it", "_law_part", "_law_is_waiting"], b361⟩
def e362 : Ent := ⟨362, ⟨("_law_both", none), "_law_both", "_law_both", defArgs (top 54), defBody (top 54), defScope (top 54), [], []⟩, ["_law_rig", "_law_pair", "_law_step", "_law_mine", "_law_theirs"], b362⟩
def e363 : Ent := ⟨363, ⟨("_law_any", none), "_law_any", "_law_any", defArgs (top 55), defBody (top 55), defScope (top 55), [], []⟩, ["_law_rig", "_law_pair", "_law_mine", "_law_step"], b363⟩
def e364 : Ent := ⟨364, ⟨("_law_pairs", none), "_law_pairs", "_law_pairs", defArgs (top 56), defBody (top 56), defScope (top 56), [], []⟩, ["_law_rig", "_law_start", "_law_found", "_law_line", "_law_at", "_law_fewest", "_law_step", "_law_late"], b364⟩
def e365 : Ent := ⟨365, ⟨("_law_are_alike", none), "_law_are_alike", "_law_are_alike", defArgs (top 57), defBody (top 57), defScope (top 57), [], []⟩, ["_law_rig", "_law_pairs_here", "_law_known", "_law_pair", "_law_step"], b365⟩
def e366 : Ent := ⟨366, ⟨("_law_is_parted", none), "_law_is_parted", "_law_is_parted", defArgs (top 58), defBody (top 58), defScope (top 58), [], []⟩, ["_law_rig", "_law_course", "_law_pair", "_law_step"], b366⟩
def e367 : Ent := ⟨367, ⟨("_law_near", none), "_law_near", "_law_near", defArgs (top 59), defBody (top 59), defScope (top 59), [], []⟩, ["_law_draw_here", "_law_words_here", "_law_at", "_law_late", "_law_other"], b367⟩
def e368 : Ent := ⟨368, ⟨("_law_rig_right", none), "_law_rig_right", "_law_rig_right", defArgs (top 60), defBody (top 60), defScope (top 60), [], []⟩, ["_law_draw_here", "_law_plan_here", "_law_rig", "_law_some", "_law_course", "_law_late", "_law_one", "_law_other", "_law_row", "_law_pairs_here", "_law_fewest", "_law_found", "_law_at"], b368⟩
def e369 : Ent := ⟨369, ⟨("law", none), "law", "law", defArgs (top 61), defBody (top 61), defScope (top 61), [], []⟩, ["_law_script", "_law_draw_here", "_law_again", "_law_model", "_law_words_here"], b369⟩
def es : List Ent := [e3, e4, e5, e6, e7, e8, e10, e14, e15, e16, e18, e19, e20, e21, e22, e23, e24, e25, e26, e27, e28, e29, e30, e31, e32, e33, e34, e35, e36, e37, e38, e39, e109, e110, e111, e112, e114, e115, e117, e118, e119, e120, e349, e350, e351, e352, e353, e354, e355, e356, e357, e358, e359, e360, e361, e362, e363, e364, e365, e366, e367, e368, e369]
def loose0 : List Str := [(Str.ofString "EndError"), (Str.ofString "BadPlan"), (Str.ofString "BadPart"), (Str.ofString "BadRules"), (Str.ofString "TooLarge"), (Str.ofString "MOST_PARTS"), (Str.ofString "RULES"), (Str.ofString "is_number"), (Str.ofString "is_word"), (Str.ofString "is_lean"), (Str.ofString "are_leans"), (Str.ofString "are_adds"), (Str.ofString "Plan"), (Str.ofString "check_plan"), (Str.ofString "are_rules"), (Str.ofString "check_rules"), (Str.ofString "MOST_STATES"), (Str.ofString "MOST_QUEUE"), (Str.ofString "ENDING"), (Str.ofString "Program"), (Str.ofString "phases_of"), (Str.ofString "start_of"), (Str.ofString "run_steps"), (Str.ofString "end_steps"), (Str.ofString "steps_of"), (Str.ofString "done"), (Str.ofString "marks_of"), (Str.ofString "is_step"), (Str.ofString "check_two"), (Str.ofString "both_behind")]
def loose1 : List Str := [(Str.ofString "any_steps"), (Str.ofString "Alike"), (Str.ofString "Parted"), (Str.ofString "compare"), (Str.ofString "are_alike"), (Str.ofString "first_parting"), (Str.ofString "_law_cell_at"), (Str.ofString "_law_draw"), (Str.ofString "_law_number"), (Str.ofString "_law_next"), (Str.ofString "_law_pick"), (Str.ofString "_law_plan"), (Str.ofString "_law_made"), (Str.ofString "_law_words"), (Str.ofString "_law_begin"), (Str.ofString "_law_steps"), (Str.ofString "_law_with"), (Str.ofString "_law_did_late"), (Str.ofString "_law_did"), (Str.ofString "_law_both"), (Str.ofString "_law_any"), (Str.ofString "_law_pairs"), (Str.ofString "_law_are_alike"), (Str.ofString "_law_is_parted"), (Str.ofString "_law_near"), (Str.ofString "_law_rig_right")]
def loose : List Str := loose0 ++ loose1
abbrev R' : PySem.W.OpenRow := PySem.W.OpenLaw.row PySem.Challenge.rw_enddeeds_k03_whole_alike
abbrev hk : PySem.W.Hook := He.hookX 5 t.fa (es.map (·.D)) [] [] t.ex
def ob (s : PySem.W.SharedT) : He.AlX := He.obsX 5 t.fa (es.map (·.D)) [] [] t.ex (HandSHeadRun.getT s)
theorem ob_eq (s : PySem.W.SharedT) : ob s = hk.obs s.abs := He.obsX_eq (HandSHeadRun.getT_eq s)
theorem run_ (w : World) : HandSHeadRun.RunEq R' (PySem.W.view R'.prog [61]) hk ob 20000 loose w := by
  intro os
  kernel_rfl
end Zk.K03
-- ZkM
set_option maxHeartbeats 4000000
namespace Zk
open PySem PySem.Spec PyProof.Rows L2
theorem tuple_mul1 (l : Addr) (items : Array Value) (n : Nat) (dd : Option Addr) (sl : Array (Option Value)) (u : Tok) :
    Meets (Builtin.«tuple.__mul__» ⟨[.ref l, .int 1 u], []⟩) (fun _ R s => s.heap.get? l = some { cls := .type "tuple", dict := dd, data := .seq items n, slots := sl } ∧
      R (.ok (.ret (Value.ref l))) s) :=
  .of_wp fun prog w A R s h => by
    obtain ⟨hp, g, d, tk, os⟩ := s
    obtain ⟨hl, h⟩ := h
    have f1 := AutoSeq1.idx_int
    have c1 : (items.isEmpty || (1 : Int) == 1) = true := by simp
    wp_walk using wpAny_loadPart' hl
    repeat (first
      | (refine wpAny_ite_false (by decide) ?_; wp_walk using wpAny_loadPart' hl)
      | (refine wpAny_ite_true (by simp) ?_; wp_walk using wpAny_loadPart' hl))
    exact ⟨_, rfl, h⟩
def rRepT1 (K : PySem.W.Frag) : R2 := fun x y H Q => ∃ l xs, x = .ref l ∧ y = .int 1 ∧ SqT K H l xs ∧ Q (.ref l) H
theorem op_repT1 {X : Cx} : OpR X (binaryOp .Mult) (rRepT1 X.K) := by
  intro pins s σ H x y v u Q I rx ry h
  obtain ⟨l, xs, rfl, rfl, hT, q⟩ := h
  cases rx
  obtain ⟨t, rfl⟩ := ry
  obtain ⟨its, r, ⟨⟨cls, dd, data, sl⟩, ho, hc, n, hd⟩, hs⟩ := I.tuple hT
  simp only at hc hd
  subst hc hd
  refine wpAny_binaryOp_repeat_ref (T := "tuple") (U := "int") (by decide) ⟨_, ho, rfl⟩ (fun s' => typeIs_int s' 1 t) noFill_tuple_mul F.fills_int_mul F.slot_int_rmul repeat_tuple F.slot_int_index.lookup
    (call_meets F.slot_int_rmul (typeIs_int s 1 t) F.entry_int_rmul (F.args_int_rmul_2 _ _) (int_rmul_tuple 1 t l its.toArray n dd sl)
      ⟨ho, rfl, ⟨_, ho, rfl⟩, call_meets F.slot_tuple_mul ⟨_, ho, rfl⟩ F.entry_tuple_mul (F.args_tuple_mul_2 _ _) (tuple_mul1 l its.toArray n dd sl t) ⟨ho, ?_⟩⟩)
  exact ⟨.ref l, H, I, rfl, q⟩
end Zk
-- Zk2
set_option maxHeartbeats 4000000
namespace Zk
open PySem PySem.Spec PyProof.Rows L2

/-- what is fixed through a law -/
structure Wd where
  P : Program
  w : World
  K : PySem.W.Frag
  mg : Str → Option Value
  base : Heap
  cA : Nat → Addr
  fA : Nat → Addr
  fd : Nat → FuncData
  ps : Nat → List Str

abbrev Ban := Addr → Prop
abbrev Ads := List (Option Addr)
/-- an address that nobody changes -/
def Fz (b : Ban) (ads : Ads) (a : Addr) : Prop := ¬ b a ∧ some a ∉ ads

def KL (K : PySem.W.Frag) (a : Addr) (xs : List V) : Prop :=
  ∃ (o : Obj) (its : Array Value) (n : Nat), K.lookup a = some o ∧ o.cls = .type "list" ∧ o.dict = none ∧ o.data = .seq its n ∧ its.size ≤ sizeLine ∧ Vals xs its.toList
def KT (K : PySem.W.Frag) (a : Addr) (xs : List V) : Prop :=
  ∃ (o : Obj) (its : Array Value) (n : Nat), K.lookup a = some o ∧ o.cls = .type "tuple" ∧ o.data = .seq its n ∧ its.size ≤ sizeLine ∧ Vals xs its.toList

mutual
def nk : PV → NestedKey
  | .non => .none
  | .bl b => .num (if b then 1 else 0)
  | .int i => .num i
  | .str x => .text x
  | .tup xs => .tup (nkL xs)
  | _ => .none
def nkL : List PV → List NestedKey
  | [] => []
  | x :: xs => nk x :: nkL xs
end
def kP : Key → PV
  | .inl i => .int i
  | .inr x => .str x
def DNφ (P : Program) (w : World) (a : Addr) (xs : List (NestedKey × Addr × Value)) (o : Obj) : Heap → Prop := fun h =>
  (a == sysModules) = false ∧ xs.length ≤ sizeLine ∧ h.get? a = some o ∧ o.ExactDict ∧ (∃ es ep, o.data = .dict es ep ∧ es.toList = xs.map (entryOfKey (nestedKind P w))) ∧ (xs.map (·.1)).Nodup
def DN (P : Program) (w : World) (a : Addr) (xs : List (NestedKey × Addr × Value)) (o : Obj) : HO := .ext (DNφ P w a xs o)
/-- a dict of tuples stands at a -/
def IsDN (H : Hp) (P : Program) (w : World) (a : Addr) (xs : List (NestedKey × Addr × Value)) : Prop := ∃ o, H a = some (DN P w a xs o)

section
variable (Z : Wd) (H : Hp) (b : Ban) (ads : Ads)
mutual
def Rp : PV → V → Prop
  | .non, v => v = .non
  | .bl x, v => v = .bl x
  | .int i, v => v = .int i
  | .str x, v => v = .str x
  | .tup xs, v => ∃ a vs, v = .ref a ∧ ((Fz b ads a ∧ Rd H a (.tup vs)) ∨ KT Z.K a vs) ∧ RpL xs vs
  | .lst xs, v => ∃ a vs, v = .ref a ∧ Fz b ads a ∧ H a = some (.lst vs) ∧ RpL xs vs
  | .rol xs, v => ∃ a vs, v = .ref a ∧ ((Fz b ads a ∧ Rd H a (.lst vs)) ∨ KL Z.K a vs) ∧ RpL xs vs
  | .dct t ks ws, v => match t with
    | false => ∃ a kvs, v = .ref a ∧ Fz b ads a ∧ H a = some (.dK kvs) ∧ ks = kvs.map (fun p => kP p.1) ∧ RpL ws (kvs.map (·.2))
    | true => ∃ a xs vs, v = .ref a ∧ Fz b ads a ∧ IsDN H Z.P Z.w a xs ∧ ks.all (keyOk true) = true ∧ xs.map (·.1) = nkL ks ∧ RpL ks (xs.map fun p => V.ref p.2.1) ∧ RpL ws vs ∧ Vals vs (xs.map (·.2.2))
  | .obj c ks ws, v => ∃ a dx fs, v = .ref a ∧ Fz b ads a ∧ H a = some (.ins (Z.cA c) dx fs) ∧ fs.map (·.1) = ks ∧ RpL ws (fs.map (·.2))
  | .loc n, v => ads[n]? = some none ∨ ∃ a, ads[n]? = some (some a) ∧ v = .ref a
def RpL : List PV → List V → Prop
  | [], vs => vs = []
  | x :: xs, vs => ∃ v ws, vs = v :: ws ∧ Rp x v ∧ RpL xs ws
end
/-- a mutable object -/
def MoR : MO → Addr → Prop
  | .lst xs, a => ∃ vs, H a = some (.lst vs) ∧ RpL Z H b ads xs vs
  | .dct t ks ws, a => match t with
    | false => ∃ kvs, H a = some (.dK kvs) ∧ ks = kvs.map (fun p => kP p.1) ∧ RpL Z H b ads ws (kvs.map (·.2))
    | true => ∃ xs vs, IsDN H Z.P Z.w a xs ∧ ks.all (keyOk true) = true ∧ xs.map (·.1) = nkL ks ∧ RpL Z H b ads ks (xs.map fun p => V.ref p.2.1) ∧ RpL Z H b ads ws vs ∧ Vals vs (xs.map (·.2.2))
  | .ins c ks ws, a => ∃ dx fs, H a = some (.ins (Z.cA c) dx fs) ∧ fs.map (·.1) = ks ∧ RpL Z H b ads ws (fs.map (·.2))
  | .dead, _ => False
structure StoR (M : Store) : Prop where
  len : ads.length = M.length
  at_ : ∀ (n : Nat) a, ads[n]? = some (some a) → ∃ mo, M[n]? = some mo ∧ MoR Z H b ads mo a
  dead : ∀ (n : Nat), ads[n]? = some none → M[n]? = some .dead
  inj : ∀ (n m : Nat) a, ads[n]? = some (some a) → ads[m]? = some (some a) → n = m
  bt : ∀ a, b a → ∃ o, H a = some o
  nb : ∀ (n : Nat) a, ads[n]? = some (some a) → ¬ b a
structure SlotR (ρ : Sl) (σ : L2.St) : Prop where
  len : ρ.length = σ.length
  at_ : ∀ (i : Nat) p, ρ[i]? = some (some p) → ∃ v, σ[i]? = some (some v) ∧ Rp Z H b ads p v
end

/-- what an evaluation leaves as it was -/
structure Aft (H : Hp) (ads : Ads) (H' : Hp) (ads' : Ads) : Prop where
  keep : ∀ a o, H a = some o → some a ∉ ads → H' a = some o
  tr : ∀ a o, H a = some o → ∃ o', H' a = some o'
  le : ads.length ≤ ads'.length
  old : ∀ (n : Nat) a, n < ads.length → ads'[n]? = some (some a) → ads[n]? = some (some a)
  dead : ∀ (n : Nat), ads[n]? = some none → ads'[n]? = some none
  new : ∀ (n : Nat) a, ads.length ≤ n → ads'[n]? = some (some a) → H a = none

theorem Aft.refl {H : Hp} {ads : Ads} : Aft H ads H ads := ⟨fun _ _ h _ => h, fun _ o h => ⟨o, h⟩, Nat.le_refl _, fun _ _ _ h => h, fun _ h => h, fun n a h e => by
  rw [List.getElem?_eq_none (by omega)] at e; cases e⟩
theorem mem_ads {ads : Ads} {a : Addr} (h : some a ∈ ads) : ∃ n : Nat, ads[n]? = some (some a) := List.getElem?_of_mem h
theorem ads_mem {ads : Ads} {a : Addr} {n : Nat} (h : ads[n]? = some (some a)) : some a ∈ ads := List.mem_of_getElem? h
theorem lt_ads {ads : Ads} {x : Option Addr} {n : Nat} (h : ads[n]? = some x) : n < ads.length := by
  rcases Nat.lt_or_ge n ads.length with q | q
  · exact q
  · rw [List.getElem?_eq_none q] at h; cases h
theorem Aft.fz {H H' : Hp} {ads ads' : Ads} (f : Aft H ads H' ads') {b : Ban} {a : Addr} {o : HO} (h : H a = some o) (z : Fz b ads a) : Fz b ads' a := by
  refine ⟨z.1, fun m => ?_⟩
  obtain ⟨n, e⟩ := mem_ads m
  rcases Nat.lt_or_ge n ads.length with q | q
  · exact z.2 (ads_mem (f.old n a q e))
  · rw [f.new n a q e] at h; cases h
theorem Aft.trans {H H1 H2 : Hp} {ads ads1 ads2 : Ads} (f : Aft H ads H1 ads1) (g : Aft H1 ads1 H2 ads2) : Aft H ads H2 ads2 := by
  refine ⟨fun a o h n => g.keep a o (f.keep a o h n) (f.fz (b := fun _ => False) h ⟨fun z => z, n⟩).2, fun a o h => ?_, Nat.le_trans f.le g.le, fun n a q e => f.old n a q (g.old n a (Nat.lt_of_lt_of_le q f.le) e), fun n e => g.dead n (f.dead n e), fun n a q e => ?_⟩
  · obtain ⟨o', e⟩ := f.tr a o h
    exact g.tr a o' e
  · rcases Nat.lt_or_ge n ads1.length with z | z
    · exact f.new n a q (g.old n a z e)
    · have k := g.new n a z e
      cases h : H a with
      | none => rfl
      | some o =>
        obtain ⟨o', e'⟩ := f.tr a o h
        rw [k] at e'; cases e'

section
variable {Z : Wd} {H H' : Hp} {b : Ban} {ads ads' : Ads}
theorem Aft.rd (f : Aft H ads H' ads') {a : Addr} {u : HO} (z : Fz b ads a) (h : Rd H a u) : Rd H' a u ∧ Fz b ads' a := by
  rcases h with h | ⟨o, h⟩
  · exact ⟨.inl (f.keep a _ h z.2), f.fz h z⟩
  · exact ⟨.inr ⟨o, f.keep a _ h z.2⟩, f.fz h z⟩
mutual
theorem Rp.aft (f : Aft H ads H' ads') : ∀ (p : PV) (v : V), Rp Z H b ads p v → Rp Z H' b ads' p v
  | .non, v, h => by simpa [Rp] using h
  | .bl _, v, h => by simpa [Rp] using h
  | .int _, v, h => by simpa [Rp] using h
  | .str _, v, h => by simpa [Rp] using h
  | .tup xs, v, h => by
    simp only [Rp] at h ⊢
    obtain ⟨a, vs, e, k, r⟩ := h
    refine ⟨a, vs, e, ?_, RpL.aft f xs vs r⟩
    rcases k with ⟨z, k⟩ | k
    · exact .inl ⟨(f.rd z k).2, (f.rd z k).1⟩
    · exact .inr k
  | .lst xs, v, h => by
    simp only [Rp] at h ⊢
    obtain ⟨a, vs, e, z, k, r⟩ := h
    exact ⟨a, vs, e, f.fz k z, f.keep a _ k z.2, RpL.aft f xs vs r⟩
  | .rol xs, v, h => by
    simp only [Rp] at h ⊢
    obtain ⟨a, vs, e, k, r⟩ := h
    refine ⟨a, vs, e, ?_, RpL.aft f xs vs r⟩
    rcases k with ⟨z, k⟩ | k
    · exact .inl ⟨(f.rd z k).2, (f.rd z k).1⟩
    · exact .inr k
  | .dct t ks ws, v, h => by
    cases t with
    | false =>
      simp only [Rp] at h ⊢
      obtain ⟨a, kvs, e, z, k, r1, r2⟩ := h
      exact ⟨a, kvs, e, f.fz k z, f.keep a _ k z.2, r1, RpL.aft f ws _ r2⟩
    | true =>
      simp only [Rp] at h ⊢
      obtain ⟨a, xs, vs, e, z, ⟨ob, k⟩, ko, n, r1, r2, r3⟩ := h
      exact ⟨a, xs, vs, e, f.fz k z, ⟨ob, f.keep a _ k z.2⟩, ko, n, RpL.aft f ks _ r1, RpL.aft f ws _ r2, r3⟩
  | .obj c ks ws, v, h => by
    simp only [Rp] at h ⊢
    obtain ⟨a, dx, fs, e, z, k, n, r⟩ := h
    exact ⟨a, dx, fs, e, f.fz k z, f.keep a _ k z.2, n, RpL.aft f ws _ r⟩
  | .loc n, v, h => by
    simp only [Rp] at h ⊢
    rcases h with h | ⟨a, h, e⟩
    · exact .inl (f.dead n h)
    · have q : n < ads'.length := Nat.lt_of_lt_of_le (lt_ads h) f.le
      obtain ⟨x, hx⟩ : ∃ x, ads'[n]? = some x := ⟨ads'[n], by simp [q]⟩
      cases x with
      | none => exact .inl hx
      | some c =>
        have z := f.old n c (lt_ads h) hx
        rw [h] at z; cases z
        exact .inr ⟨a, hx, e⟩
theorem RpL.aft (f : Aft H ads H' ads') : ∀ (ps : List PV) (vs : List V), RpL Z H b ads ps vs → RpL Z H' b ads' ps vs
  | [], vs, h => by simpa [RpL] using h
  | p :: ps, vs, h => by
    simp only [RpL] at h ⊢
    obtain ⟨v, ws, e, r1, r2⟩ := h
    exact ⟨v, ws, e, Rp.aft f p v r1, RpL.aft f ps ws r2⟩
end
theorem SlotR.aft (f : Aft H ads H' ads') {ρ : Sl} {σ : L2.St} (s : SlotR Z H b ads ρ σ) : SlotR Z H' b ads' ρ σ :=
  ⟨s.len, fun i p e => let ⟨v, e1, r⟩ := s.at_ i p e; ⟨v, e1, Rp.aft f p v r⟩⟩
theorem RpL.length : ∀ {ps : List PV} {vs : List V}, RpL Z H b ads ps vs → ps.length = vs.length
  | [], vs, h => by simp only [RpL] at h; subst h; rfl
  | p :: ps, vs, h => by
    simp only [RpL] at h
    obtain ⟨v, ws, e, _, r⟩ := h
    subst e
    simp [RpL.length r]
theorem RpL.cons {p : PV} {ps : List PV} {v : V} {vs : List V} (h : Rp Z H b ads p v) (r : RpL Z H b ads ps vs) : RpL Z H b ads (p :: ps) (v :: vs) := by
  simp only [RpL]; exact ⟨v, vs, rfl, h, r⟩
theorem RpL.nil : RpL Z H b ads [] [] := by simp [RpL]
theorem RpL.cons_inv {p : PV} {ps : List PV} {vs : List V} (h : RpL Z H b ads (p :: ps) vs) : ∃ v ws, vs = v :: ws ∧ Rp Z H b ads p v ∧ RpL Z H b ads ps ws := by
  simpa only [RpL] using h
theorem RpL.nil_inv {vs : List V} (h : RpL Z H b ads [] vs) : vs = [] := by simpa only [RpL] using h
theorem RpL.append : ∀ {ps qs : List PV} {vs ws : List V}, RpL Z H b ads ps vs → RpL Z H b ads qs ws → RpL Z H b ads (ps ++ qs) (vs ++ ws)
  | [], qs, vs, ws, h, r => by rw [h.nil_inv]; exact r
  | p :: ps, qs, vs, ws, h, r => by
    obtain ⟨v, us, e, h1, h2⟩ := h.cons_inv
    subst e
    exact RpL.cons h1 (RpL.append h2 r)
theorem RpL.get : ∀ {ps : List PV} {vs : List V} {i : Nat} {p : PV}, RpL Z H b ads ps vs → ps[i]? = some p → ∃ v, vs[i]? = some v ∧ Rp Z H b ads p v
  | [], _, _, _, _, e => by simp at e
  | q :: ps, vs, 0, p, h, e => by
    obtain ⟨v, us, e1, h1, h2⟩ := h.cons_inv
    subst e1
    simp at e; subst e
    exact ⟨v, rfl, h1⟩
  | q :: ps, vs, i + 1, p, h, e => by
    obtain ⟨v, us, e1, h1, h2⟩ := h.cons_inv
    subst e1
    obtain ⟨w, e2, r⟩ := RpL.get (i := i) h2 (by simpa using e)
    exact ⟨w, by simpa using e2, r⟩
theorem RpL.take : ∀ {ps : List PV} {vs : List V} (n : Nat), RpL Z H b ads ps vs → RpL Z H b ads (ps.take n) (vs.take n)
  | _, _, 0, _ => RpL.nil
  | [], _, n + 1, h => by rw [h.nil_inv]; exact RpL.nil
  | p :: ps, vs, n + 1, h => by
    obtain ⟨v, us, e1, h1, h2⟩ := h.cons_inv
    subst e1
    exact RpL.cons h1 (RpL.take n h2)
theorem RpL.drop : ∀ {ps : List PV} {vs : List V} (n : Nat), RpL Z H b ads ps vs → RpL Z H b ads (ps.drop n) (vs.drop n)
  | _, _, 0, h => h
  | [], _, n + 1, h => by rw [h.nil_inv]; exact RpL.nil
  | p :: ps, vs, n + 1, h => by
    obtain ⟨v, us, e1, h1, h2⟩ := h.cons_inv
    subst e1
    exact RpL.drop n h2
theorem RpL.set : ∀ {ps : List PV} {vs : List V} {p : PV} {v : V} (i : Nat), RpL Z H b ads ps vs → Rp Z H b ads p v → RpL Z H b ads (ps.set i p) (vs.set i v)
  | [], _, _, _, _, h, _ => by rw [h.nil_inv]; exact RpL.nil
  | q :: ps, vs, p, v, 0, h, r => by
    obtain ⟨w, us, e1, h1, h2⟩ := h.cons_inv
    subst e1
    exact RpL.cons r h2
  | q :: ps, vs, p, v, i + 1, h, r => by
    obtain ⟨w, us, e1, h1, h2⟩ := h.cons_inv
    subst e1
    exact RpL.cons h1 (RpL.set i h2 r)
theorem RpL.reverse : ∀ {ps : List PV} {vs : List V}, RpL Z H b ads ps vs → RpL Z H b ads ps.reverse vs.reverse
  | [], _, h => by rw [h.nil_inv]; exact RpL.nil
  | p :: ps, vs, h => by
    obtain ⟨w, us, e1, h1, h2⟩ := h.cons_inv
    subst e1
    rw [List.reverse_cons, List.reverse_cons]
    exact RpL.append (RpL.reverse h2) (RpL.cons h1 RpL.nil)

theorem StoR.live {M : Store} (r : StoR Z H b ads M) {a : Addr} (h : some a ∈ ads) : ∃ o, H a = some o := by
  obtain ⟨n, e⟩ := mem_ads h
  obtain ⟨mo, _, q⟩ := r.at_ n a e
  cases mo with
  | lst xs => obtain ⟨vs, k, _⟩ := q; exact ⟨_, k⟩
  | dct t ks ws =>
    cases t with
    | false => obtain ⟨kvs, k, _⟩ := q; exact ⟨_, k⟩
    | true => obtain ⟨xs, vs, ⟨ob, k⟩, _⟩ := q; exact ⟨_, k⟩
  | ins c ks ws => obtain ⟨dx, fs, k, _⟩ := q; exact ⟨_, k⟩
  | dead => exact q.elim
theorem StoR.fresh {M : Store} (r : StoR Z H b ads M) {p : Addr} (h : H p = none) : Fz b ads p :=
  And.intro (fun z => by
    obtain ⟨o, e⟩ := r.bt p z
    rw [h] at e; exact nomatch e) (fun z => by
    obtain ⟨o, e⟩ := r.live z
    rw [h] at e; exact nomatch e)
/-- something new stands at p, all else as before -/
theorem Aft.laid {p : Addr} {o : HO} (h : H p = none) : Aft H ads (upd H p o) ads where
  keep := fun a u e _ => by rw [upd_ne (ne_of_none e h)]; exact e
  tr := fun a u e => ⟨u, by rw [upd_ne (ne_of_none e h)]; exact e⟩
  le := Nat.le_refl _
  old := fun _ _ _ e => e
  dead := fun _ e => e
  new := fun n a q e => by rw [List.getElem?_eq_none q] at e; cases e
theorem MoR.keep {mo : MO} {a : Addr} (f : Aft H ads H' ads') (k : ∀ o, H a = some o → H' a = some o) (h : MoR Z H b ads mo a) : MoR Z H' b ads' mo a := by
  cases mo with
  | lst xs => obtain ⟨vs, e, r⟩ := h; exact ⟨vs, k _ e, RpL.aft f _ _ r⟩
  | dct t ks ws =>
    cases t with
    | false => obtain ⟨kvs, e, r1, r2⟩ := h; exact ⟨kvs, k _ e, r1, RpL.aft f _ _ r2⟩
    | true => obtain ⟨xs, vs, ⟨ob, e⟩, ko, n, r1, r2, r3⟩ := h; exact ⟨xs, vs, ⟨ob, k _ e⟩, ko, n, RpL.aft f _ _ r1, RpL.aft f _ _ r2, r3⟩
  | ins c ks ws => obtain ⟨dx, fs, e, n, r⟩ := h; exact ⟨dx, fs, k _ e, n, RpL.aft f _ _ r⟩
  | dead => exact h.elim
/-- all that stood stands: the store too -/
theorem StoR.keep {M : Store} (r : StoR Z H b ads M) (k : ∀ a o, H a = some o → H' a = some o) : StoR Z H' b ads M := by
  have f : Aft H ads H' ads := ⟨fun a o e _ => k a o e, fun a o e => ⟨o, k a o e⟩, Nat.le_refl _, fun _ _ _ e => e, fun _ e => e, fun n a q e => by rw [List.getElem?_eq_none q] at e; cases e⟩
  refine ⟨r.len, fun n a e => ?_, r.dead, r.inj, fun a z => ?_, r.nb⟩
  · obtain ⟨mo, e1, q⟩ := r.at_ n a e
    exact ⟨mo, e1, q.keep f (k a)⟩
  · obtain ⟨o, e⟩ := r.bt a z
    exact ⟨o, k a o e⟩
theorem keep_upd {p : Addr} {o : HO} (h : H p = none) : ∀ a u, H a = some u → upd H p o a = some u := fun a u e => by rw [upd_ne (ne_of_none e h)]; exact e
theorem Aft.kept (k : ∀ a o, H a = some o → H' a = some o) : Aft H ads H' ads := ⟨fun a o e _ => k a o e, fun a o e => ⟨o, k a o e⟩, Nat.le_refl _, fun _ _ _ e => e, fun _ e => e, fun n a q e => by rw [List.getElem?_eq_none q] at e; cases e⟩
end
end Zk
-- ZkD
set_option maxHeartbeats 4000000
namespace Zk
open PySem PySem.Spec PyProof.Rows L2

mutual
/-- a key as it lies in the abstract heap -/
inductive NkH (K : PySem.W.Frag) (H : Hp) : NestedKey → V → Prop
  | non : NkH K H .none .non
  | bl (c : Bool) : NkH K H (.num (if c then 1 else 0)) (.bl c)
  | int (i : Int) : NkH K H (.num i) (.int i)
  | str (x : Str) : NkH K H (.text x) (.str x)
  | tup {a : Addr} {vs : List V} {ks : List NestedKey} : SqT K H a vs → NkHs K H ks vs → NkH K H (.tup ks) (.ref a)
inductive NkHs (K : PySem.W.Frag) (H : Hp) : List NestedKey → List V → Prop
  | nil : NkHs K H [] []
  | cons {k : NestedKey} {v : V} {ks : List NestedKey} {vs : List V} : NkH K H k v → NkHs K H ks vs → NkHs K H (k :: ks) (v :: vs)
end
section
variable {X : Cx} {pins : List (Addr × Obj)} {σ : L2.St} {H : Hp} {s : Shared}
mutual
theorem NkH.is (I : Inv X pins σ H s) : ∀ (k : NestedKey) (v : V) (u : Value), NkH X.K H k v → RelV v u → NestedIs s.heap k u
  | .none, _, u, h, r => by cases h; cases r; exact .none
  | .num _, _, u, h, r => by
    cases h with
    | bl c => cases r; exact .bool rfl
    | int i => obtain ⟨t, rfl⟩ := r; exact .int _ t
  | .text _, _, u, h, r => by cases h; obtain ⟨t, rfl⟩ := r; exact .text _ t
  | .tup ks, _, u, h, r => by
    cases h with
    | tup q qs =>
      cases r
      obtain ⟨its, rv, ⟨o, ho, hc, n, hd⟩, _⟩ := I.tuple q
      exact .tup ho hc hd (by simpa using NkHs.are I ks _ its qs rv)
theorem NkHs.are (I : Inv X pins σ H s) : ∀ (ks : List NestedKey) (vs : List V) (us : List Value), NkHs X.K H ks vs → Vals vs us → NestedAll s.heap ks us
  | [], _, us, h, r => by cases h; cases r; exact .nil
  | k :: ks, _, us, h, r => by
    cases h with
    | cons h1 h2 =>
      cases r with
      | cons r1 r2 => exact .cons (NkH.is I k _ _ h1 r1) (NkHs.are I ks _ _ h2 r2)
end
/-- the keys of a dict stand -/
def KsOk (K : PySem.W.Frag) (H : Hp) (xs : List (NestedKey × Addr × Value)) : Prop := ∀ x ∈ xs, NkH K H x.1 (.ref x.2.1) ∧ x.1.depth ≤ 8
theorem dn_of (I : Inv X pins σ H s) {a : Addr} {xs : List (NestedKey × Addr × Value)} (h : IsDN H X.prog X.w a xs) (hk : KsOk X.K H xs) :
    (a == sysModules) = false ∧ xs.length ≤ sizeLine ∧ s.heap.DictOfH (nestedKind X.prog X.w) a xs := by
  obtain ⟨o, h⟩ := h
  obtain ⟨⟨h1, h2, h3, h4, ⟨es, ep, h5, h6⟩, h7⟩, _, _⟩ := I.hok a _ h
  exact ⟨h1, h2, o, es, ep, h3, h4, h5, h6, fun x hx => ⟨NkH.is I x.1 _ _ (hk x hx).1 rfl, (hk x hx).2⟩, h7⟩
theorem dn_ok {P : Program} {w : World} {H' : Hp} {h : Heap} {a : Addr} {xs : List (NestedKey × Addr × Value)} (h1 : (a == sysModules) = false) (h2 : xs.length ≤ sizeLine) (h3 : h.DictOfH (nestedKind P w) a xs) : ∃ o, ObjOk P w H' h a (DN P w a xs o) := by
  obtain ⟨o, es, ep, q1, q2, q3, q4, q5, q6⟩ := h3
  refine ⟨o, ⟨h1, h2, q1, q2, ⟨es, ep, q3, q4⟩, q6⟩, ⟨o, q1⟩, fun g1 g2 z st => ?_⟩
  obtain ⟨z1, z2, z3, z4⟩ := z
  exact ⟨z1, z2, st _ z3, z4⟩
theorem room_n {A : Around} {k : Nat} (h : Room k A) : (nestedKind X.prog X.w).room A.in1 := by
  show A.units + 1 + 8 < cLine
  have := h.un
  omega
def rInN (P : Program) (w : World) (K : PySem.W.Frag) (f : Bool → Bool) : R2 := fun x y H Q => ∃ (ka d : Addr) (xs : List (NestedKey × Addr × Value)) (k : NestedKey), x = .ref ka ∧ y = .ref d ∧ IsDN H P w d xs ∧ KsOk K H xs ∧ NkH K H k (.ref ka) ∧ k.depth ≤ 8 ∧ Q (.bl (f (atKey xs k).isSome)) H
theorem op_inN {n : Nat} (hr : Room n X.A) : OpR X (compareOp .In) (rInN X.prog X.w X.K id) := by
  intro pins s σ H x y v u Q I rx ry h
  obtain ⟨ka, d, xs, k, rfl, rfl, hd, hk, hka, dk, q⟩ := h
  cases rx
  cases ry
  obtain ⟨z1, z2, dd⟩ := dn_of I hd hk
  exact wpAny_in_heap (room_n hr) ⟨NkH.is I k _ _ hka rfl, dk⟩ z1 dd ⟨.bl _, H, I.tok _, rfl, q⟩
theorem op_notInN {n : Nat} (hr : Room n X.A) : OpR X (compareOp .NotIn) (rInN X.prog X.w X.K (!·)) := by
  intro pins s σ H x y v u Q I rx ry h
  obtain ⟨ka, d, xs, k, rfl, rfl, hd, hk, hka, dk, q⟩ := h
  cases rx
  cases ry
  obtain ⟨z1, z2, dd⟩ := dn_of I hd hk
  show wpAny (model X.prog X.w) X.A (do return Value.bool (!(← contains (.ref d) (.ref ka)))) (EP X pins σ Q) X.xe s
  exact wpAny_bind (wpAny_contains_heap (room_n hr) ⟨NkH.is I k _ _ hka rfl, dk⟩ z1 dd (wpAny_pure ⟨.bl _, H, I.tok _, rfl, q⟩))
def rIxN (P : Program) (w : World) (K : PySem.W.Frag) : R2 := fun x y H Q => ∃ (ka d : Addr) (xs : List (NestedKey × Addr × Value)) (k : NestedKey) (p : Addr × Value) (r : V), x = .ref d ∧ y = .ref ka ∧ IsDN H P w d xs ∧ KsOk K H xs ∧ NkH K H k (.ref ka) ∧ k.depth ≤ 8 ∧ atKey xs k = some p ∧ RelV r p.2 ∧ Q r H
theorem ix_N {n : Nat} (hr : Room n X.A) : IxR X (rIxN X.prog X.w X.K) := by
  intro value slice pins s σ H x y v u Q I rx ry h hs
  obtain ⟨ka, d, xs, k, p, r, rfl, rfl, hd, hk, hka, dk, hp, rr, q⟩ := h
  cases rx
  cases ry
  obtain ⟨z1, z2, dd⟩ := dn_of I hd hk
  exact tail_any dd.typeIs slot_dict_getitem.lookup (wpAny_getItem_heap (room_n hr) ⟨NkH.is I k _ _ hka rfl, dk⟩ dd hp ⟨r, H, I.tok _, rr, q⟩) hs
/-- dicts by ints and texts -/
def rIxK : R2 := fun x y H Q => ∃ a v, x = .ref a ∧ DGet H a y (some v) ∧ Q v H
theorem ix_K {n : Nat} (hr : Room n X.A) : IxR X rIxK := by
  intro value slice pins s σ H x y v u Q I rx ry h hs
  obtain ⟨a, r, rfl, g, q⟩ := h
  cases rx
  exact tail_any (dict_typeIs I g) slot_dict_getitem.lookup (d_getItem (hu_of hr) I g ry fun w' s3 I3 rw' => ⟨r, H, I3, rw', q⟩) hs
def rInK (f : Bool → Bool) : R2 := fun x y H Q => ∃ a o, y = .ref a ∧ DGet H a x o ∧ Q (.bl (f o.isSome)) H
theorem op_inK {n : Nat} (hr : Room n X.A) : OpR X (compareOp .In) (rInK id) := by
  intro pins s σ H x y v u Q I rx ry h
  obtain ⟨a, o, rfl, g, q⟩ := h
  cases ry
  exact d_in (hu_of hr) I g rx fun s3 I3 => ⟨.bl _, H, I3, rfl, q⟩
theorem op_notInK {n : Nat} (hr : Room n X.A) : OpR X (compareOp .NotIn) (rInK (!·)) := by
  intro pins s σ H x y v u Q I rx ry h
  obtain ⟨a, o, rfl, g, q⟩ := h
  cases ry
  exact d_notIn (hu_of hr) I g rx fun s3 I3 => ⟨.bl _, H, I3, rfl, q⟩
/-- d[k] = v -/
def setN (P : Program) (w : World) (K : PySem.W.Frag) : TSet := fun x y v H Q => ∃ (ka d : Addr) (xs : List (NestedKey × Addr × Value)) (k : NestedKey), x = .ref d ∧ y = .ref ka ∧ IsDN H P w d xs ∧ KsOk K H xs ∧ NkH K H k (.ref ka) ∧ k.depth ≤ 8 ∧ xs.length < sizeLine ∧
  ∀ u o, RelV v u → Q (upd H d (DN P w d (storedH xs k ka u) o))
theorem length_storedH (xs : List (NestedKey × Addr × Value)) (k : NestedKey) (a : Addr) (v : Value) : (storedH xs k a v).length ≤ xs.length + 1 := by
  unfold storedH
  split <;> simp
theorem ps_N {n : Nat} (hr : Room n X.A) : PSet X (setN X.prog X.w X.K) := by
  intro pins s σ H o i v ov iv u Q I ro ri rv h
  obtain ⟨ka, d, xs, k, rfl, rfl, hd, hk, hka, dk, hl, q⟩ := h
  cases ro
  cases ri
  obtain ⟨z1, z2, dd⟩ := dn_of I hd hk
  refine wpAny_setItem_heap (hsz := z2) (room_n hr) ⟨NkH.is I k _ _ hka rfl, dk⟩ dd fun h' dd' hs => ?_
  have he : ∃ q, h'.get? d = some q := let ⟨q, _, _, hq, _⟩ := dd'; ⟨q, hq⟩
  obtain ⟨ob, hob⟩ := dn_ok (H' := upd H d (DN X.prog X.w d (storedH xs k ka u) default)) z1 (Nat.le_trans (length_storedH _ _ _ _) hl) dd'
  obtain ⟨o0, hd⟩ := hd
  exact ⟨_, d_write I (by rw [hd]; exact True.intro) hs he hob, q u ob rv⟩
def setK : TSet := fun x y v H Q => ∃ a H', x = .ref a ∧ DPut H a y v H' ∧ Q H'
theorem ps_K {n : Nat} (hr : Room n X.A) : PSet X setK := by
  intro pins s σ H o i v ov iv u Q I ro ri rv h
  obtain ⟨a, H', rfl, g, q⟩ := h
  cases ro
  exact d_setItem (hu_of hr) I g ri rv fun s4 I4 => ⟨H', I4, q⟩
theorem PSet.or {t t' : TSet} (h : PSet X t) (h' : PSet X t') : PSet X (fun o i v H Q => t o i v H Q ∨ t' o i v H Q) := by
  intro pins s σ H o i v ov iv u Q I ro ri rv q
  rcases q with q | q
  · exact h pins s σ H o i v ov iv u Q I ro ri rv q
  · exact h' pins s σ H o i v ov iv u Q I ro ri rv q
/-- {} -/
theorem pe_dnewN {pos : Pos} : PE X (.Dict [] [] pos) (fun _ H Q => ∀ p o, H p = none → Q (.ref p) (upd H p (DN X.prog X.w p [] o))) := ⟨fun pins s σ H Q I h => by
  obtain ⟨ob, hob⟩ := dn_ok (P := X.prog) (w := X.w) (H' := H) (a := s.heap.objs.size) (beq_eq_false_iff_ne.mpr (Ne.symm (Nat.ne_of_lt I.big))) (Nat.zero_le _) (Heap.DictOfH.new s.heap)
  exact wpAny_Dict_empty ⟨.ref s.heap.objs.size, _, I.laid (a := s.heap.objs.size) (o := DN X.prog X.w s.heap.objs.size [] ob) (t' := s.toks) (fun _ _ q => Heap.get?_push_of_some _ q) (Nat.le_refl _) hob, rfl, h _ _ (I.hok.fresh (Nat.le_refl _))⟩⟩
/-- len(d) -/
theorem call_lenN : CallR X (.builtin "len") (fun xs H Q => ∃ (a : Addr) (es : List (NestedKey × Addr × Value)), xs = [.ref a] ∧ IsDN H X.prog X.w a es ∧ KsOk X.K H es ∧ Q (.int es.length) H) := by
  intro pins s σ H xs us Q I r h
  obtain ⟨a, es, rfl, hd, hk, q⟩ := h
  obtain ⟨z1, z2, dd⟩ := dn_of I hd hk
  cases r with
  | cons r1 r2 =>
    cases r1
    cases r2
    have hm : s.heap.DictKeyed (nestedKind X.prog X.w) a (pairsH es) := ⟨es, dd, rfl⟩
    have hl : (pairsH es).length = es.length := pairsH_length es
    refine PyProof.Rows.call_len_slot (n := es.length) hm.typeIs F.slot_dict_len (fun Q' hq => len_keyed z1 hm (by rw [hl]; exact hq)) (by omega) (by rw [sizeLine_eq] at z2; omega) ?_
    exact ⟨.int _, H, I.tok _, ⟨_, rfl⟩, q⟩
end
end Zk
-- Zk3
set_option maxHeartbeats 4000000
namespace Zk
open PySem PySem.Spec L2

/-- an exception as it lies -/
def XR (Z : Wd) (H : Hp) (b : Ban) (ads : Ads) (x : Exn) (cls : Value) (d : Option Addr) : Prop :=
  cls = .ref (Z.cA x.c) ∧ match x.f with
    | none => True
    | some (f, p) => ∃ a v, d = some a ∧ Fz b ads a ∧ H a = some (.xd [(f, v)]) ∧ Rp Z H b ads p v

section
variable (Z : Wd) (W : WX)
def EndE (σ : L2.St) (H : Hp) (b : Ban) (ads : Ads) (Q : VK) : R PV → Prop
  | .ok v M => ∀ H' ads' x, Aft H ads H' ads' → StoR Z H' b ads' M → Rp Z H' b ads' v x → Q x H'
  | .exc x M => ∀ H' ads' cls d, Aft H ads H' ads' → StoR Z H' b ads' M → XR Z H' b ads' x cls d → W cls d σ H'
  | .bad => False
/-- an expression's reading -/
def tE (d : Sl → Store → R PV) : TE := fun σ H Q => ∃ b ads M ρ, StoR Z H b ads M ∧ SlotR Z H b ads ρ σ ∧ EndE Z W σ H b ads Q (d ρ M)
def EndA (σ : L2.St) (H : Hp) (b : Ban) (ads : Ads) (Q : List V → Hp → Prop) : R PV → Prop
  | .ok v M => ∀ H' ads' xs, Aft H ads H' ads' → StoR Z H' b ads' M → RpL Z H' b ads' (bargs v) xs → Q xs H'
  | .exc x M => ∀ H' ads' cls d, Aft H ads H' ads' → StoR Z H' b ads' M → XR Z H' b ads' x cls d → W cls d σ H'
  | .bad => False
def tA (d : Sl → Store → R PV) : TA := fun σ H Q => ∃ b ads M ρ, StoR Z H b ads M ∧ SlotR Z H b ads ρ σ ∧ EndA Z W σ H b ads Q (d ρ M)
def EndT (σ : L2.St) (H : Hp) (b : Ban) (ads : Ads) (Q : Bool → Hp → Prop) : R PV → Prop
  | .ok v M => ∃ c, v = .bl c ∧ ∀ H' ads', Aft H ads H' ads' → StoR Z H' b ads' M → Q c H'
  | .exc x M => ∀ H' ads' cls d, Aft H ads H' ads' → StoR Z H' b ads' M → XR Z H' b ads' x cls d → W cls d σ H'
  | .bad => False
/-- a test's -/
def tT (d : Sl → Store → R PV) : TT := fun σ H Q => ∃ b ads M ρ, StoR Z H b ads M ∧ SlotR Z H b ads ρ σ ∧ EndT Z W σ H b ads Q (d ρ M)
end

theorem impE {X : Cx} {e : Expr} {t t' : TE} (h : PE X e t) (i : ∀ σ H Q, t' σ H Q → t σ H Q) : PE X e t' := ⟨fun pins s σ H Q I q => h.run pins s σ H Q I (i _ _ _ q)⟩
theorem impT {X : Cx} {e : Expr} {t t' : TT} (h : PT X e t) (i : ∀ σ H Q, t' σ H Q → t σ H Q) : PT X e t' := ⟨fun pins s σ H Q I q => h.run pins s σ H Q I (i _ _ _ q)⟩
theorem impW {X : Cx} {e : Expr} {t t' : TT} (h : PW X e t) (i : ∀ σ H Q, t' σ H Q → t σ H Q) : PW X e t' := ⟨fun wh pins s σ H Q I q => h.run wh pins s σ H Q I (i _ _ _ q)⟩
theorem impA {X : Cx} {es : List Expr} {t t' : TA} (h : PA X es t) (i : ∀ σ H Q, t' σ H Q → t σ H Q) : PA X es t' := ⟨fun pos pins s σ H Q I q => h.run pos pins s σ H Q I (i _ _ _ q)⟩

section
variable {Z : Wd} {W : WX} {σ : L2.St} {H H' : Hp} {b : Ban} {ads ads' : Ads}
theorem EndE.aft {Q : VK} {r : R PV} (f : Aft H ads H' ads') (h : EndE Z W σ H b ads Q r) : EndE Z W σ H' b ads' Q r := by
  cases r with
  | ok v M => exact fun H2 a2 x g s r => h H2 a2 x (f.trans g) s r
  | exc x M => exact fun H2 a2 c d g s r => h H2 a2 c d (f.trans g) s r
  | bad => exact h
theorem EndA.aft {Q : List V → Hp → Prop} {r : R PV} (f : Aft H ads H' ads') (h : EndA Z W σ H b ads Q r) : EndA Z W σ H' b ads' Q r := by
  cases r with
  | ok v M => exact fun H2 a2 x g s r => h H2 a2 x (f.trans g) s r
  | exc x M => exact fun H2 a2 c d g s r => h H2 a2 c d (f.trans g) s r
  | bad => exact h
theorem EndT.aft {Q : Bool → Hp → Prop} {r : R PV} (f : Aft H ads H' ads') (h : EndT Z W σ H b ads Q r) : EndT Z W σ H' b ads' Q r := by
  cases r with
  | ok v M => obtain ⟨c, e, h⟩ := h; exact ⟨c, e, fun H2 a2 g s => h H2 a2 (f.trans g) s⟩
  | exc x M => exact fun H2 a2 c d g s r => h H2 a2 c d (f.trans g) s r
  | bad => exact h
/-- an expression, and what follows its value -/
theorem EndE.of {Q : VK} {r : R PV} {G : PV → Store → Prop} (hex : ∀ x M, r = .exc x M → ∀ H' ads' cls d, Aft H ads H' ads' → StoR Z H' b ads' M → XR Z H' b ads' x cls d → W cls d σ H') (hbad : r = .bad → False)
    (h : ∀ v M, r = .ok v M → ∀ H' ads' x, Aft H ads H' ads' → StoR Z H' b ads' M → Rp Z H' b ads' v x → Q x H') : EndE Z W σ H b ads Q r := by
  cases r with
  | ok v M => exact h v M rfl
  | exc x M => exact hex x M rfl
  | bad => exact hbad rfl
/-- from the whole to the first part: E to E -/
theorem EndE.bind {Q : VK} {r : R PV} {f : PV → Store → R PV} (h : EndE Z W σ H b ads Q (r.bind f)) :
    EndE Z W σ H b ads (fun x H1 => ∃ ads1 v M1, Aft H ads H1 ads1 ∧ StoR Z H1 b ads1 M1 ∧ Rp Z H1 b ads1 v x ∧ EndE Z W σ H1 b ads1 Q (f v M1)) r := by
  cases r with
  | ok v M => exact fun H1 a1 x g s p => ⟨a1, v, M, g, s, p, EndE.aft g h⟩
  | exc x M => exact h
  | bad => exact h
theorem EndE.bindA {Q : VK} {r : R PV} {f : PV → Store → R PV} (h : EndE Z W σ H b ads Q (r.bind f)) :
    EndA Z W σ H b ads (fun xs H1 => ∃ ads1 v M1, Aft H ads H1 ads1 ∧ StoR Z H1 b ads1 M1 ∧ RpL Z H1 b ads1 (bargs v) xs ∧ EndE Z W σ H1 b ads1 Q (f v M1)) r := by
  cases r with
  | ok v M => exact fun H1 a1 x g s p => ⟨a1, v, M, g, s, p, EndE.aft g h⟩
  | exc x M => exact h
  | bad => exact h
theorem EndA.bind {Q : List V → Hp → Prop} {r : R PV} {f : PV → Store → R PV} (h : EndA Z W σ H b ads Q (r.bind f)) :
    EndE Z W σ H b ads (fun x H1 => ∃ ads1 v M1, Aft H ads H1 ads1 ∧ StoR Z H1 b ads1 M1 ∧ Rp Z H1 b ads1 v x ∧ EndA Z W σ H1 b ads1 Q (f v M1)) r := by
  cases r with
  | ok v M => exact fun H1 a1 x g s p => ⟨a1, v, M, g, s, p, EndA.aft g h⟩
  | exc x M => exact h
  | bad => exact h
theorem EndA.bindA {Q : List V → Hp → Prop} {r : R PV} {f : PV → Store → R PV} (h : EndA Z W σ H b ads Q (r.bind f)) :
    EndA Z W σ H b ads (fun xs H1 => ∃ ads1 v M1, Aft H ads H1 ads1 ∧ StoR Z H1 b ads1 M1 ∧ RpL Z H1 b ads1 (bargs v) xs ∧ EndA Z W σ H1 b ads1 Q (f v M1)) r := by
  cases r with
  | ok v M => exact fun H1 a1 x g s p => ⟨a1, v, M, g, s, p, EndA.aft g h⟩
  | exc x M => exact h
  | bad => exact h
theorem EndT.bind {Q : Bool → Hp → Prop} {r : R PV} {f : PV → Store → R PV} (h : EndT Z W σ H b ads Q (r.bind f)) :
    EndE Z W σ H b ads (fun x H1 => ∃ ads1 v M1, Aft H ads H1 ads1 ∧ StoR Z H1 b ads1 M1 ∧ Rp Z H1 b ads1 v x ∧ EndT Z W σ H1 b ads1 Q (f v M1)) r := by
  cases r with
  | ok v M => exact fun H1 a1 x g s p => ⟨a1, v, M, g, s, p, EndT.aft g h⟩
  | exc x M => exact h
  | bad => exact h
/-- a part that is a test -/
theorem EndE.bindT {Q : VK} {r : R PV} {f : PV → Store → R PV} (hf : ∀ v M, (∀ c, v ≠ .bl c) → f v M = .bad) (h : EndE Z W σ H b ads Q (r.bind f)) :
    EndT Z W σ H b ads (fun c H1 => ∃ ads1 M1, Aft H ads H1 ads1 ∧ StoR Z H1 b ads1 M1 ∧ EndE Z W σ H1 b ads1 Q (f (.bl c) M1)) r := by
  cases r with
  | ok v M =>
    by_cases k : ∃ c, v = .bl c
    · obtain ⟨c, rfl⟩ := k
      exact ⟨c, rfl, fun H1 a1 g s => ⟨a1, M, g, s, EndE.aft g h⟩⟩
    · have e := hf v M fun c q => k ⟨c, q⟩
      have h' : EndE Z W σ H b ads Q (f v M) := h
      rw [e] at h'; exact h'.elim
  | exc x M => exact h
  | bad => exact h
theorem EndT.bindT {Q : Bool → Hp → Prop} {r : R PV} {f : PV → Store → R PV} (hf : ∀ v M, (∀ c, v ≠ .bl c) → f v M = .bad) (h : EndT Z W σ H b ads Q (r.bind f)) :
    EndT Z W σ H b ads (fun c H1 => ∃ ads1 M1, Aft H ads H1 ads1 ∧ StoR Z H1 b ads1 M1 ∧ EndT Z W σ H1 b ads1 Q (f (.bl c) M1)) r := by
  cases r with
  | ok v M =>
    by_cases k : ∃ c, v = .bl c
    · obtain ⟨c, rfl⟩ := k
      exact ⟨c, rfl, fun H1 a1 g s => ⟨a1, M, g, s, EndT.aft g h⟩⟩
    · have e := hf v M fun c q => k ⟨c, q⟩
      have h' : EndT Z W σ H b ads Q (f v M) := h
      rw [e] at h'; exact h'.elim
  | exc x M => exact h
  | bad => exact h
theorem EndE.mono {Q Q' : VK} {r : R PV} (h : EndE Z W σ H b ads Q r) (i : ∀ x H', Q x H' → Q' x H') : EndE Z W σ H b ads Q' r := by
  cases r with
  | ok v M => exact fun H1 a1 x g s p => i _ _ (h H1 a1 x g s p)
  | exc x M => exact h
  | bad => exact h
theorem EndA.mono {Q Q' : List V → Hp → Prop} {r : R PV} (h : EndA Z W σ H b ads Q r) (i : ∀ x H', Q x H' → Q' x H') : EndA Z W σ H b ads Q' r := by
  cases r with
  | ok v M => exact fun H1 a1 x g s p => i _ _ (h H1 a1 x g s p)
  | exc x M => exact h
  | bad => exact h
theorem EndT.mono {Q Q' : Bool → Hp → Prop} {r : R PV} (h : EndT Z W σ H b ads Q r) (i : ∀ x H', Q x H' → Q' x H') : EndT Z W σ H b ads Q' r := by
  cases r with
  | ok v M => obtain ⟨c, e, h⟩ := h; exact ⟨c, e, fun H1 a1 g s => i _ _ (h H1 a1 g s)⟩
  | exc x M => exact h
  | bad => exact h
/-- the end stands here -/
theorem EndE.now {Q : VK} {v : PV} {M : Store} {x : V} (h : EndE Z W σ H b ads Q (.ok v M)) (s : StoR Z H b ads M) (r : Rp Z H b ads v x) : Q x H := h H ads x Aft.refl s r
theorem EndE.nowOf {Q : VK} {o : Option PV} {v : PV} {M : Store} {x : V} (h : EndE Z W σ H b ads Q (R.of o M)) (e : o = some v) (s : StoR Z H b ads M) (r : Rp Z H b ads v x) : Q x H := by
  subst e; exact EndE.now h s r
/-- a new tuple -/
theorem rp_tup {p : Addr} {ps : List PV} {vs : List V} {M : Store} (s : StoR Z H b ads M) (h : H p = none) (r : RpL Z H b ads ps vs) : Rp Z (upd H p (.tup vs)) b ads (.tup ps) (.ref p) := by
  simp only [Rp]
  exact ⟨p, vs, rfl, .inl ⟨s.fresh h, .inl upd_same⟩, RpL.aft (Aft.laid h) _ _ r⟩
theorem rp_lst {p : Addr} {ps : List PV} {vs : List V} {M : Store} (s : StoR Z H b ads M) (h : H p = none) (r : RpL Z H b ads ps vs) : Rp Z (upd H p (.lst vs)) b ads (.lst ps) (.ref p) := by
  simp only [Rp]
  exact ⟨p, vs, rfl, s.fresh h, upd_same, RpL.aft (Aft.laid h) _ _ r⟩
theorem EndE.newTup {Q : VK} {ps : List PV} {vs : List V} {M : Store} {p : Addr} (h : EndE Z W σ H b ads Q (.ok (.tup ps) M)) (s : StoR Z H b ads M) (r : RpL Z H b ads ps vs) (hp : H p = none) : Q (.ref p) (upd H p (.tup vs)) :=
  h _ ads _ (Aft.laid hp) (s.keep (keep_upd hp)) (rp_tup s hp r)
theorem EndE.newLst {Q : VK} {ps : List PV} {vs : List V} {M : Store} {p : Addr} (h : EndE Z W σ H b ads Q (.ok (.lst ps) M)) (s : StoR Z H b ads M) (r : RpL Z H b ads ps vs) (hp : H p = none) : Q (.ref p) (upd H p (.lst vs)) :=
  h _ ads _ (Aft.laid hp) (s.keep (keep_upd hp)) (rp_lst s hp r)

theorem Rp.int {i : Int} {x : V} (h : Rp Z H b ads (.int i) x) : x = .int i := by simpa only [Rp] using h
theorem Rp.bl {i : Bool} {x : V} (h : Rp Z H b ads (.bl i) x) : x = .bl i := by simpa only [Rp] using h
theorem Rp.str {i : Str} {x : V} (h : Rp Z H b ads (.str i) x) : x = .str i := by simpa only [Rp] using h
theorem Rp.non {x : V} (h : Rp Z H b ads .non x) : x = .non := by simpa only [Rp] using h
theorem KT.sq {K : PySem.W.Frag} {a : Addr} {xs : List V} (h : KT K a xs) : SqT K H a xs := .inr h
theorem KL.sq {K : PySem.W.Frag} {a : Addr} {xs : List V} (h : KL K a xs) : SqL K H a xs := .inr h
theorem Rp.tup {ps : List PV} {x : V} (h : Rp Z H b ads (.tup ps) x) : ∃ a vs, x = .ref a ∧ SqT Z.K H a vs ∧ RpL Z H b ads ps vs := by
  simp only [Rp] at h
  obtain ⟨a, vs, e, k, r⟩ := h
  refine ⟨a, vs, e, ?_, r⟩
  rcases k with ⟨_, k⟩ | k
  · exact .inl k
  · exact .inr k
theorem Rp.lst {ps : List PV} {x : V} (h : Rp Z H b ads (.lst ps) x) : ∃ a vs, x = .ref a ∧ H a = some (.lst vs) ∧ RpL Z H b ads ps vs := by
  simp only [Rp] at h
  obtain ⟨a, vs, e, _, k, r⟩ := h
  exact ⟨a, vs, e, k, r⟩
theorem Rp.rol {ps : List PV} {x : V} (h : Rp Z H b ads (.rol ps) x) : ∃ a vs, x = .ref a ∧ SqL Z.K H a vs ∧ RpL Z H b ads ps vs := by
  simp only [Rp] at h
  obtain ⟨a, vs, e, k, r⟩ := h
  refine ⟨a, vs, e, ?_, r⟩
  rcases k with ⟨_, k⟩ | k
  · exact .inl k
  · exact .inr k
theorem rp_int {i : Int} : Rp Z H b ads (.int i) (.int i) := by simp [Rp]
theorem rp_bl {i : Bool} : Rp Z H b ads (.bl i) (.bl i) := by simp [Rp]
theorem rp_str {i : Str} : Rp Z H b ads (.str i) (.str i) := by simp [Rp]
theorem rp_non : Rp Z H b ads .non .non := by simp [Rp]
/-- a live place of the store -/
theorem StoR.obj {M : Store} (s : StoR Z H b ads M) {n : Nat} {x : V} {mo : MO} (h : Rp Z H b ads (.loc n) x) (e : M[n]? = some mo) (hd : mo ≠ .dead) : ∃ a, x = .ref a ∧ ads[n]? = some (some a) ∧ MoR Z H b ads mo a := by
  simp only [Rp] at h
  rcases h with h | ⟨a, h, ex⟩
  · have q := s.dead n h
    rw [e] at q; cases q; exact (hd rfl).elim
  · obtain ⟨mo', e', r⟩ := s.at_ n a h
    rw [e] at e'; cases e'
    exact ⟨a, ex, h, r⟩
/-- x is None -/
theorem Rp.isNon {p : PV} {x : V} {c : Bool} (h : Rp Z H b ads p x) (e : isNV p = some c) : decide (x = .non) = c := by
  cases p with
  | non => rw [h.non]; cases e; simp
  | bl c => rw [h.bl]; cases e; simp
  | int i => rw [h.int]; cases e; simp
  | str y => rw [h.str]; cases e; simp
  | tup xs => obtain ⟨a, vs, e', _⟩ := h.tup; rw [e']; cases e; simp
  | lst xs => obtain ⟨a, vs, e', _⟩ := h.lst; rw [e']; cases e; simp
  | rol xs => obtain ⟨a, vs, e', _⟩ := h.rol; rw [e']; cases e; simp
  | dct t ks ws =>
    cases e
    cases t with
    | false => simp only [Rp] at h; obtain ⟨a, _, e', _⟩ := h; rw [e']; simp
    | true => simp only [Rp] at h; obtain ⟨a, _, _, e', _⟩ := h; rw [e']; simp
  | obj c ks ws => cases e; simp only [Rp] at h; obtain ⟨a, _, _, e', _⟩ := h; rw [e']; simp
  | loc n => cases e
end
end Zk
-- Zk4
set_option maxHeartbeats 4000000
namespace Zk
open PySem PySem.Spec L2

/-- the context in which a piece of code runs -/
structure Cok (Z : Wd) (k : Nat) (X : Cx) (W : WX) : Prop where
  prog : X.prog = Z.P
  w : X.w = Z.w
  K : X.K = Z.K
  mg : X.mg = Z.mg
  base : X.base = Z.base
  calm : X.calm = true
  nd : X.N.Nodup
  takes : Takes X W
  room : Room k X.A
  own : PassesOwn (model X.prog X.w) X.A X.env X.xe

section
variable {Z : Wd} {W : WX} {X : Cx} {k : Nat} {e a b c : Expr} {es : List Expr} {d da db dc : Sl → Store → R PV} {pos : Pos}

theorem s_var {i : Nat} {x : Str} (hN : X.N[i]? = some x) (hv : Vis X.env.scope x) (hd : (x == ("__debug__" : Str)) = false) (hcd : (x == ("__classdict__" : Str)) = false) :
    PE X (.Name x pos) (tE Z W fun ρ M => R.of ((ρ[i]?).bind id) M) :=
  impE (pe_var hN hv hd hcd) fun σ H Q ⟨bn, ads, M, ρ, st, sl, h⟩ => by
    cases q : (ρ[i]?).bind id with
    | none => simp only [q, R.of] at h; exact h.elim
    | some p =>
      simp only [q] at h
      have e : ρ[i]? = some (some p) := by
        cases r : ρ[i]? with
        | none => rw [r] at q; cases q
        | some o => rw [r] at q; cases o with
          | none => cases q
          | some y => cases q; rfl
      obtain ⟨v, ev, rv⟩ := sl.at_ i p e
      exact ⟨v, ev, h.now st rv⟩
theorem s_int {i : Int} {j : Nat} : PE X (.Constant (.int i) j pos) (tE Z W fun _ M => .ok (.int i) M) := impE pe_int fun _ _ _ ⟨_, _, _, _, st, _, h⟩ => h.now st rp_int
theorem s_bl {i : Bool} {j : Nat} : PE X (.Constant (.bool i) j pos) (tE Z W fun _ M => .ok (.bl i) M) := impE pe_bl fun _ _ _ ⟨_, _, _, _, st, _, h⟩ => h.now st rp_bl
theorem s_non {j : Nat} : PE X (.Constant .none j pos) (tE Z W fun _ M => .ok .non M) := impE pe_non fun _ _ _ ⟨_, _, _, _, st, _, h⟩ => h.now st rp_non
theorem s_str {i : Str} {j : Nat} : PE X (.Constant (.str i) j pos) (tE Z W fun _ M => .ok (.str i) M) := impE pe_str fun _ _ _ ⟨_, _, _, _, st, _, h⟩ => h.now st rp_str
/-- a name of the module holds data that never changes -/
def GlbOk (Z : Wd) (x : Str) (p : PV) : Prop := ∃ u v, Z.mg x = some u ∧ RelV v u ∧ ∀ H b ads, Rp Z H b ads p v
theorem s_glb {x : Str} {p : PV} (C : Cok Z k X W) (hg : Gl X x) (h : GlbOk Z x p) (hd : (x == ("__debug__" : Str)) = false) : PE X (.Name x pos) (tE Z W fun _ M => .ok p M) := by
  obtain ⟨u, v, hm, r, hr⟩ := h
  exact impE (pe_glob hg (by rw [C.mg]; exact hm) r hd) fun _ _ _ ⟨_, _, _, _, st, _, h⟩ => h.now st (hr _ _ _)

def notStar : Expr → Bool
  | .Starred _ _ => false
  | _ => true
theorem starEach_cons {env : Env} (h : notStar e = true) : starEach (e :: es) env = (false, eval e env) :: starEach es env := by
  cases e <;> first | rfl | cases h
def noStars (es : List Expr) : Bool := es.all notStar
theorem any_stars {env : Env} (h : noStars es = true) : (backTo pos (starEach es env)).any (·.1) = false := by
  cases es with
  | nil => rfl
  | cons x r =>
    induction r generalizing x pos with
    | nil =>
      simp only [noStars, List.all_cons, List.all_nil, Bool.and_true] at h
      rw [starEach_cons h]; rfl
    | cons y r ih =>
      simp only [noStars, List.all_cons, Bool.and_eq_true] at h
      rw [starEach_cons h.1]
      have z := ih (pos := pos) (x := y) (by simp only [noStars, List.all_cons, Bool.and_eq_true]; exact h.2)
      cases hs : starEach (y :: r) env with
      | nil => rfl
      | cons q qs =>
        rw [hs] at z
        obtain ⟨q1, q2⟩ := q
        simp only [backTo, List.any_cons, Bool.false_or] at z ⊢
        first | exact z | simpa using z
theorem s_anil : PA X [] (tA Z W fun _ M => .ok (.tup []) M) := impA pa_nil fun _ H _ ⟨_, ads, _, _, st, _, h⟩ => h H ads [] Aft.refl st RpL.nil
theorem s_acons (hs : notStar e = true) (ha : PE X e (tE Z W da)) (hr : PA X es (tA Z W db)) : PA X (e :: es) (tA Z W fun ρ M => (da ρ M).bind fun v M1 => (db ρ M1).bind fun w M2 => .ok (.tup (v :: bargs w)) M2) :=
  impA (pa_cons ha hr (starEach_cons hs)) fun σ H Q ⟨bn, ads, M, ρ, st, sl, h⟩ =>
    ⟨bn, ads, M, ρ, st, sl, h.bind.mono fun x H1 ⟨ads1, v, M1, f1, st1, r1, h1⟩ =>
      ⟨bn, ads1, M1, ρ, st1, sl.aft f1, h1.bindA.mono fun xs H2 ⟨ads2, w, M2, f2, st2, r2, h2⟩ => h2 H2 ads2 (x :: xs) Aft.refl st2 (RpL.cons (Rp.aft f2 _ _ r1) r2)⟩⟩
/-- what a star gives its items of -/
theorem Rp.seq {H : Hp} {bn : Ban} {ads : Ads} {M : Store} {v : PV} {x : V} {ps : List PV} (st : StoR Z H bn ads M) (r : Rp Z H bn ads v x) (h : seqV (thaw v M) = some ps) :
    ∃ p vs, x = .ref p ∧ (SqT Z.K H p vs ∨ SqL Z.K H p vs) ∧ RpL Z H bn ads ps vs := by
  cases v with
  | tup xs => cases h; obtain ⟨a, vs, e, k, q⟩ := r.tup; exact ⟨a, vs, e, .inl k, q⟩
  | lst xs => cases h; obtain ⟨a, vs, e, k, q⟩ := r.lst; exact ⟨a, vs, e, .inr (.inl (.inl k)), q⟩
  | rol xs => cases h
  | loc n =>
    simp only [thaw] at h
    cases q : (M[n]? : Option MO) with
    | none => rw [q] at h; cases h
    | some mo =>
      rw [q] at h
      cases mo with
      | lst xs =>
        cases h
        obtain ⟨a, ex, _, vs, hv, rv⟩ := st.obj r q (by intro z; cases z)
        exact ⟨a, vs, ex, .inr (.inl (.inl hv)), rv⟩
      | dct t ks ws => cases h
      | ins c ks ws => cases h
      | dead => cases h
  | non => cases h
  | bl _ => cases h
  | int _ => cases h
  | str _ => cases h
  | dct _ _ _ => cases h
  | obj _ _ _ => cases h
theorem s_astar {p : Pos} (C : Cok Z k X W) (ha : PE X e (tE Z W da)) (hr : PA X es (tA Z W db)) : PA X (.Starred e p :: es) (tA Z W fun ρ M => (da ρ M).bind fun v M1 => match seqV (thaw v M1) with
    | some xs => (db ρ M1).bind fun w M2 => .ok (.tup (xs ++ bargs w)) M2
    | none => .bad) := by
  have key : PA X (.Starred e p :: es) (StX.tStar X.K (tE Z W da) (tA Z W db)) := StX.pa_star ha hr rfl
  refine impA key fun σ H Q ⟨bn, ads, M, ρ, st, sl, h⟩ =>
    ⟨bn, ads, M, ρ, st, sl, h.bind.mono fun x H1 ⟨ads1, v, M1, f1, st1, r1, h1⟩ => ?_⟩
  cases q : seqV (thaw v M1) with
  | none => simp only [q] at h1; exact h1.elim
  | some ps =>
    simp only [q] at h1
    obtain ⟨pp, vs, ex, hk, rl⟩ := r1.seq st1 q
    refine ⟨pp, vs, ex, by rw [C.K]; exact hk, bn, ads1, M1, ρ, st1, sl.aft f1, h1.bindA.mono fun xs H2 ⟨ads2, w, M2, f2, st2, r2, h2⟩ => h2 H2 ads2 (vs ++ xs) Aft.refl st2 (RpL.append (RpL.aft f2 _ _ rl) r2)⟩
end
end Zk
-- Zk5
set_option maxHeartbeats 4000000
namespace Zk
open PySem PySem.Spec L2

theorem most_le {n : Nat} (h : n ≤ mostLen) : n ≤ sizeLine := by rw [sizeLine_eq]; unfold mostLen at h; omega

mutual
def toD : PV → PyData
  | .non => .none
  | .bl b => .bool b
  | .int i => .int i
  | .str x => .str x
  | .tup xs => .tuple (toDL xs)
  | .lst xs => .list (toDL xs)
  | .rol _ => .none
  | .dct _ _ _ => .none
  | .obj _ _ _ => .none
  | .loc _ => .none
def toDL : List PV → List PyData
  | [] => []
  | x :: xs => toD x :: toDL xs
end
mutual
theorem canLay_toD : ∀ p : PV, okD p = true → (toD p).canLay0 = true
  | .non, _ => rfl
  | .bl _, _ => rfl
  | .int _, _ => rfl
  | .str x, h => by
    simp only [okD, strGood] at h
    simp only [toD, PyData.canLay0, PyData.strOk]
    simpa using h
  | .tup xs, h => by simp only [okD] at h; simp only [toD, PyData.canLay0]; exact canLay_toDL xs h
  | .lst xs, h => by simp only [okD] at h; simp only [toD, PyData.canLay0]; exact canLay_toDL xs h
  | .rol _, h => by simp [okD] at h
  | .dct _ _ _, h => by simp [okD] at h
  | .obj _ _ _, h => by simp [okD] at h
  | .loc _, h => by simp [okD] at h
theorem canLay_toDL : ∀ ps : List PV, okDL ps = true → PyData.canLayAll0 (toDL ps) = true
  | [], _ => rfl
  | p :: ps, h => by
    simp only [okDL, Bool.and_eq_true] at h
    simp only [toDL, PyData.canLayAll0, Bool.and_eq_true]
    exact ⟨canLay_toD p h.1, canLay_toDL ps h.2⟩
end
mutual
theorem dep_toD : ∀ p : PV, okD p = true → (toD p).depth = dep p
  | .non, _ => by simp [toD, PyData.depth, dep]
  | .bl _, _ => by simp [toD, PyData.depth, dep]
  | .int _, _ => by simp [toD, PyData.depth, dep]
  | .str x, h => by simp [toD, PyData.depth, dep]
  | .tup xs, h => by simp only [okD] at h; simp only [toD, PyData.depth, dep]; rw [dep_toDL xs h]
  | .lst xs, h => by simp only [okD] at h; simp only [toD, PyData.depth, dep]; rw [dep_toDL xs h]
  | .rol _, h => by simp [okD] at h
  | .dct _ _ _, h => by simp [okD] at h
  | .obj _ _ _, h => by simp [okD] at h
  | .loc _, h => by simp [okD] at h
theorem dep_toDL : ∀ ps : List PV, okDL ps = true → PyData.depthAll (toDL ps) = depL ps
  | [], _ => by simp [toDL, PyData.depthAll, depL]
  | p :: ps, h => by
    simp only [okDL, Bool.and_eq_true] at h
    simp only [toDL, PyData.depthAll, depL]
    rw [dep_toD p h.1, dep_toDL ps h.2]
end
theorem shaped_toD {p : PV} (h : shp p = true) : SeqAt.shaped (toD p) = true := by
  simp only [shp, Bool.and_eq_true, decide_eq_true_eq] at h
  simp only [SeqAt.shaped, Bool.and_eq_true, decide_eq_true_eq]
  exact ⟨canLay_toD p h.1, by rw [dep_toD p h.1]; omega⟩
mutual
theorem eqv_toD : ∀ p q : PV, okD p = true → okD q = true → PyData.eqv (toD p) (toD q) = eqB p q
  | .non, q, _, h => by cases q <;> simp [okD] at h <;> simp [toD, PyData.eqv, eqB]
  | .bl _, q, _, h => by cases q <;> simp [okD] at h <;> simp [toD, PyData.eqv, eqB]
  | .int _, q, _, h => by cases q <;> simp [okD] at h <;> simp [toD, PyData.eqv, eqB]
  | .str x, q, _, h => by cases q <;> simp [okD] at h <;> simp [toD, PyData.eqv, eqB]
  | .tup xs, q, h, h' => by
    cases q with
    | tup ys => simp only [okD] at h h'; simp only [toD, PyData.eqv, eqB]; exact eqv_toDL xs ys h h'
    | _ => simp [okD] at h' <;> simp [toD, PyData.eqv, eqB]
  | .lst xs, q, h, h' => by
    cases q with
    | lst ys => simp only [okD] at h h'; simp only [toD, PyData.eqv, eqB]; exact eqv_toDL xs ys h h'
    | _ => simp [okD] at h' <;> simp [toD, PyData.eqv, eqB]
  | .rol _, q, h, _ => by simp [okD] at h
  | .dct _ _ _, q, h, _ => by simp [okD] at h
  | .obj _ _ _, q, h, _ => by simp [okD] at h
  | .loc _, q, h, _ => by simp [okD] at h
theorem eqv_toDL : ∀ ps qs : List PV, okDL ps = true → okDL qs = true → PyData.eqvAll (toDL ps) (toDL qs) = eqBL ps qs
  | [], qs, _, _ => by cases qs <;> simp [toDL, PyData.eqvAll, eqBL]
  | p :: ps, qs, h, h' => by
    cases qs with
    | nil => simp [toDL, PyData.eqvAll, eqBL]
    | cons q qs =>
      simp only [okDL, Bool.and_eq_true] at h h'
      simp only [toDL, PyData.eqvAll, eqBL]
      rw [eqv_toD p q h.1 h'.1, eqv_toDL ps qs h.2 h'.2]
end
section
variable {Z : Wd} {H : Hp} {b : Ban} {ads : Ads}
mutual
theorem Rp.dp : ∀ (p : PV) (x : V), Rp Z H b ads p x → okD p = true → Dp Z.K H x (toD p)
  | .non, x, h, _ => by rw [h.non]; exact .non
  | .bl _, x, h, _ => by rw [h.bl]; exact .bl _
  | .int _, x, h, _ => by rw [h.int]; exact .int _
  | .str _, x, h, _ => by rw [h.str]; exact .str _
  | .tup xs, x, h, k => by
    obtain ⟨a, vs, e, q, r⟩ := h.tup
    rw [e]
    simp only [okD] at k
    exact .tup q (RpL.dp xs vs r k)
  | .lst xs, x, h, k => by
    obtain ⟨a, vs, e, q, r⟩ := h.lst
    rw [e]
    simp only [okD] at k
    exact .lst (.inl (.inl q)) (RpL.dp xs vs r k)
  | .rol _, _, _, k => by simp [okD] at k
  | .dct _ _ _, _, _, k => by simp [okD] at k
  | .obj _ _ _, _, _, k => by simp [okD] at k
  | .loc _, _, _, k => by simp [okD] at k
theorem RpL.dp : ∀ (ps : List PV) (xs : List V), RpL Z H b ads ps xs → okDL ps = true → DpAll Z.K H xs (toDL ps)
  | [], xs, h, _ => by rw [h.nil_inv]; exact .nil
  | p :: ps, xs, h, k => by
    obtain ⟨v, ws, e, r1, r2⟩ := h.cons_inv
    subst e
    simp only [okDL, Bool.and_eq_true] at k
    exact .cons (Rp.dp p v r1 k.1) (RpL.dp ps ws r2 k.2)
end
/-- a list of the store read as data -/
theorem Rp.dpT {M : Store} {p : PV} {x : V} (st : StoR Z H b ads M) (h : Rp Z H b ads p x) (k : okD (thaw p M) = true) : Dp Z.K H x (toD (thaw p M)) := by
  cases p with
  | loc n =>
    simp only [thaw] at k ⊢
    cases q : (M[n]? : Option MO) with
    | none => rw [q] at k; simp [okD] at k
    | some mo =>
      rw [q] at k
      cases mo with
      | lst xs =>
        obtain ⟨a, ex, _, vs, hv, rv⟩ := st.obj h q (by intro z; cases z)
        rw [ex]
        simp only [okD] at k
        exact .lst (.inl (.inl hv)) (RpL.dp xs vs rv k)
      | dct t ks ws => simp [okD] at k
      | ins c ks ws => simp [okD] at k
      | dead => simp [okD] at k
  | _ => exact Rp.dp _ _ h k
theorem RpL.flat : ∀ {ps : List PV} {vs : List V}, RpL Z H b ads ps vs → ps.all flat = true → vs.all flatV = true
  | [], _, h, _ => by rw [h.nil_inv]; rfl
  | p :: ps, vs, h, k => by
    obtain ⟨v, ws, e, r1, r2⟩ := h.cons_inv
    subst e
    simp only [List.all_cons, Bool.and_eq_true] at k ⊢
    refine ⟨?_, RpL.flat r2 k.2⟩
    cases p with
    | non => rw [r1.non]; rfl
    | bl _ => rw [r1.bl]; rfl
    | int _ => rw [r1.int]; rfl
    | str _ => rw [r1.str]; rfl
    | _ => simp [Zk.flat] at k
theorem Rp.flat1 {p : PV} {v : V} (r1 : Rp Z H b ads p v) (k : Zk.flat p = true) : flatV v = true := by
  cases p with
  | non => rw [r1.non]; rfl
  | bl _ => rw [r1.bl]; rfl
  | int _ => rw [r1.int]; rfl
  | str _ => rw [r1.str]; rfl
  | _ => simp [Zk.flat] at k
theorem Rp.eqV {p q : PV} {x y : V} (r1 : Rp Z H b ads p x) (r2 : Rp Z H b ads q y) (k : Zk.flat p = true) (k' : Zk.flat q = true) : L2.eqV x y = eqB p q := by
  cases p with
  | non => rw [r1.non]; cases q <;> simp [Zk.flat] at k' <;> (first | rw [r2.non] | rw [r2.bl] | rw [r2.int] | rw [r2.str]) <;> simp [L2.eqV, eqB]
  | bl _ => rw [r1.bl]; cases q <;> simp [Zk.flat] at k' <;> (first | rw [r2.non] | rw [r2.bl] | rw [r2.int] | rw [r2.str]) <;> simp [L2.eqV, eqB]
  | int _ => rw [r1.int]; cases q <;> simp [Zk.flat] at k' <;> (first | rw [r2.non] | rw [r2.bl] | rw [r2.int] | rw [r2.str]) <;> simp [L2.eqV, eqB]
  | str _ => rw [r1.str]; cases q <;> simp [Zk.flat] at k' <;> (first | rw [r2.non] | rw [r2.bl] | rw [r2.int] | rw [r2.str]) <;> simp [L2.eqV, eqB]
  | _ => simp [Zk.flat] at k
theorem RpL.inV {x : PV} {v : V} (r : Rp Z H b ads x v) (k : Zk.flat x = true) : ∀ {ps : List PV} {vs : List V}, RpL Z H b ads ps vs → ps.all Zk.flat = true → L2.inV v vs = ps.any fun z => eqB z x
  | [], _, h, _ => by rw [h.nil_inv]; rfl
  | p :: ps, vs, h, k' => by
    obtain ⟨w, ws, e, r1, r2⟩ := h.cons_inv
    subst e
    simp only [List.all_cons, Bool.and_eq_true] at k'
    have ih := RpL.inV r k r2 k'.2
    unfold L2.inV at ih ⊢
    rw [List.any_cons, List.any_cons, ih, Rp.eqV r1 r k'.1 k]
theorem any_toDL (x : PV) (hx : okD x = true) : ∀ ps : List PV, okDL ps = true → ((toDL ps).any fun z => PyData.eqv z (toD x)) = ps.any fun z => eqB z x
  | [], _ => rfl
  | p :: ps, h => by
    simp only [okDL, Bool.and_eq_true] at h
    simp only [toDL, List.any_cons]
    rw [eqv_toD p x h.1 hx, any_toDL x hx ps h.2]
end
end Zk
-- Zk6
set_option maxHeartbeats 4000000
namespace Zk
open PySem PySem.Spec L2

section
variable {Z : Wd} {H : Hp} {b : Ban} {ads : Ads} {M : Store} {p : Addr} {o : HO} {mo : MO}
theorem app_lt {α : Type} {l : List α} {x : α} {n : Nat} (h : n < l.length) : (l ++ [x])[n]? = l[n]? := List.getElem?_append_left h
theorem app_eq {α : Type} {l : List α} {x : α} : (l ++ [x])[l.length]? = some x := by simp
theorem app_cases {α : Type} {l : List α} {x y : α} {n : Nat} (h : (l ++ [x])[n]? = some y) : (n < l.length ∧ l[n]? = some y) ∨ (n = l.length ∧ x = y) := by
  rcases Nat.lt_or_ge n l.length with q | q
  · rw [app_lt q] at h; exact .inl ⟨q, h⟩
  · rw [List.getElem?_append_right q] at h
    have e : n - l.length = 0 := by
      rcases Nat.eq_zero_or_pos (n - l.length) with z | z
      · exact z
      · rw [List.getElem?_eq_none (by simp; omega)] at h; cases h
    rw [e] at h
    exact .inr ⟨by omega, by simpa using h⟩
theorem Aft.push (h : H p = none) : Aft H ads (upd H p o) (ads ++ [some p]) where
  keep := fun a u e _ => keep_upd h a u e
  tr := fun a u e => ⟨u, keep_upd h a u e⟩
  le := by simp
  old := fun n a q e => by rwa [app_lt q] at e
  dead := fun n e => by rw [app_lt (lt_ads e)]; exact e
  new := fun n a q e => by
    rcases app_cases e with ⟨z, _⟩ | ⟨_, z⟩
    · omega
    · cases z; exact h
theorem StoR.push (s : StoR Z H b ads M) (h : H p = none) (r : MoR Z (upd H p o) b (ads ++ [some p]) mo p) : StoR Z (upd H p o) b (ads ++ [some p]) (M ++ [mo]) where
  len := by simp [s.len]
  at_ := fun n a e => by
    rcases app_cases e with ⟨z, e⟩ | ⟨z, e'⟩
    · obtain ⟨m, e1, q⟩ := s.at_ n a e
      exact ⟨m, by rw [app_lt (by rw [← s.len]; exact z)]; exact e1, q.keep (Aft.push h) (keep_upd h a)⟩
    · subst z
      have e2 : p = a := Option.some.inj e'
      subst e2
      exact ⟨mo, by rw [s.len]; exact app_eq, r⟩
  dead := fun n e => by
    rcases app_cases e with ⟨z, e⟩ | ⟨_, e⟩
    · rw [app_lt (by rw [← s.len]; exact z)]; exact s.dead n e
    · cases e
  inj := fun n m a e e' => by
    have live : ∀ n : Nat, ads[n]? = some (some p) → False := fun n q => by
      obtain ⟨u, z⟩ := s.live (ads_mem q)
      rw [h] at z; cases z
    rcases app_cases e with ⟨z, e⟩ | ⟨z, e⟩ <;> rcases app_cases e' with ⟨z', e'⟩ | ⟨z', e'⟩
    · exact s.inj n m a e e'
    · cases e'; exact (live n e).elim
    · cases e; exact (live m e').elim
    · omega
  bt := fun a z => by
    obtain ⟨u, e⟩ := s.bt a z
    exact ⟨u, keep_upd h a u e⟩
  nb := fun n a e => by
    rcases app_cases e with ⟨z, e⟩ | ⟨z, e⟩
    · exact s.nb n a e
    · have e2 : p = a := Option.some.inj e
      subst e2
      exact (s.fresh h).1
theorem rp_loc {n : Nat} {a : Addr} (h : ads[n]? = some (some a)) : Rp Z H b ads (.loc n) (.ref a) := by
  simp only [Rp]; exact .inr ⟨a, h, rfl⟩
theorem Aft.write {a : Addr} (m : some a ∈ ads) : Aft H ads (upd H a o) ads where
  keep := fun c u e q => by
    have z : c ≠ a := fun z => q (by rw [z]; exact m)
    rw [upd_ne z]; exact e
  tr := fun c u e => by
    by_cases z : c = a
    · subst z; exact ⟨o, upd_same⟩
    · exact ⟨u, by rw [upd_ne z]; exact e⟩
  le := Nat.le_refl _
  old := fun _ _ _ e => e
  dead := fun _ e => e
  new := fun n a q e => by rw [List.getElem?_eq_none q] at e; cases e
theorem StoR.write {n : Nat} {a : Addr} (s : StoR Z H b ads M) (e : ads[n]? = some (some a)) (r : MoR Z (upd H a o) b ads mo a) : StoR Z (upd H a o) b ads (M.set n mo) where
  len := by simp [s.len]
  at_ := fun m c e' => by
    by_cases z : m = n
    · subst z
      rw [e] at e'; cases e'
      exact ⟨mo, by rw [List.getElem?_set_self (by rw [← s.len]; exact lt_ads e)], r⟩
    · obtain ⟨mm, e1, q⟩ := s.at_ m c e'
      have hc : c ≠ a := fun y => z (s.inj m n a (y ▸ e') e)
      exact ⟨mm, by rw [List.getElem?_set_ne (fun y => z y.symm)]; exact e1, q.keep (Aft.write (ads_mem e)) fun u k => by rw [upd_ne hc]; exact k⟩
  dead := fun m e' => by
    have z : n ≠ m := fun y => by subst y; rw [e] at e'; cases e'
    rw [List.getElem?_set_ne z]; exact s.dead m e'
  inj := s.inj
  bt := fun c z => by
    obtain ⟨u, k⟩ := s.bt c z
    exact (Aft.write (ads_mem e)).tr c u k
  nb := s.nb
theorem Aft.freeze {n : Nat} : Aft H ads H (ads.set n none) where
  keep := fun _ _ e _ => e
  tr := fun _ u e => ⟨u, e⟩
  le := by simp
  old := fun m a q e => by
    by_cases z : n = m
    · subst z; rw [List.getElem?_set_self q] at e; cases e
    · rwa [List.getElem?_set_ne z] at e
  dead := fun m e => by
    by_cases z : n = m
    · subst z; rw [List.getElem?_set_self (lt_ads e)]
    · rwa [List.getElem?_set_ne z]
  new := fun m a q e => by
    rw [List.getElem?_eq_none (by simp; exact q)] at e; cases e
theorem StoR.freeze {n : Nat} {a : Addr} (s : StoR Z H b ads M) (e : ads[n]? = some (some a)) : StoR Z H b (ads.set n none) (M.set n .dead) where
  len := by simp [s.len]
  at_ := fun m c e' => by
    by_cases z : n = m
    · subst z; rw [List.getElem?_set_self (lt_ads e)] at e'; cases e'
    · rw [List.getElem?_set_ne z] at e'
      obtain ⟨mm, e1, q⟩ := s.at_ m c e'
      exact ⟨mm, by rw [List.getElem?_set_ne z]; exact e1, q.keep Aft.freeze fun u k => k⟩
  dead := fun m e' => by
    by_cases z : n = m
    · subst z; rw [List.getElem?_set_self (by rw [← s.len]; exact lt_ads e)]
    · rw [List.getElem?_set_ne z] at e'; rw [List.getElem?_set_ne z]; exact s.dead m e'
  inj := fun m m' c e1 e2 => by
    have old : ∀ m : Nat, (ads.set n none)[m]? = some (some c) → ads[m]? = some (some c) := fun m q => by
      by_cases z : n = m
      · subst z; rw [List.getElem?_set_self (lt_ads e)] at q; cases q
      · rwa [List.getElem?_set_ne z] at q
    exact s.inj m m' c (old m e1) (old m' e2)
  bt := s.bt
  nb := fun m c q => by
    by_cases z : n = m
    · subst z; rw [List.getElem?_set_self (lt_ads e)] at q; cases q
    · rw [List.getElem?_set_ne z] at q; exact s.nb m c q
theorem fz_freeze {n : Nat} {a : Addr} (s : StoR Z H b ads M) (e : ads[n]? = some (some a)) : Fz b (ads.set n none) a := by
  refine ⟨s.nb n a e, fun m => ?_⟩
  obtain ⟨k, q⟩ := mem_ads m
  by_cases z : n = k
  · subst z; rw [List.getElem?_set_self (lt_ads e)] at q; cases q
  · rw [List.getElem?_set_ne z] at q
    exact z (s.inj n k a e q)
end
end Zk
-- ZkE
set_option maxHeartbeats 4000000
namespace Zk
open PySem PySem.Spec L2
/-- what may stand in a key -/
def kin (p : PV) : Bool := okD p && keyOk.noLst p
theorem keyOk_tup {p : PV} (h : keyOk true p = true) : ∃ xs, p = .tup xs ∧ kin p = true ∧ dep p ≤ 7 := by
  cases p with
  | tup xs =>
    simp only [keyOk, Bool.and_eq_true, decide_eq_true_eq] at h
    exact ⟨xs, rfl, by simp only [kin, okD, Bool.and_eq_true]; exact ⟨h.1.1, h.2⟩, h.1.2⟩
  | _ => simp [keyOk] at h
mutual
theorem eqB_nkI : ∀ p q : PV, kin p = true → kin q = true → (eqB p q = true ↔ nk p = nk q)
  | .non, q, _, h => by cases q <;> simp [kin, okD, keyOk.noLst] at h <;> simp [eqB, nk]
  | .bl a, q, _, h => by
    cases q <;> simp [kin, okD, keyOk.noLst] at h <;> simp [eqB, nk]
    rename_i c; cases a <;> cases c <;> simp
  | .int i, q, _, h => by
    cases q <;> simp [kin, okD, keyOk.noLst] at h <;> simp [eqB, nk]
  | .str x, q, _, h => by
    cases q <;> simp [kin, okD, keyOk.noLst] at h <;> simp [eqB, nk]
  | .tup xs, q, h, h' => by
    cases q with
    | tup ys =>
      simp only [kin, okD, keyOk.noLst, Bool.and_eq_true] at h h'
      simp only [eqB, nk, NestedKey.tup.injEq]
      exact eqBL_nkI xs ys h.1 h.2 h'.1 h'.2
    | _ => simp [kin, okD, keyOk.noLst] at h' <;> simp [eqB, nk]
  | .lst _, q, h, _ => by simp [kin, keyOk.noLst] at h
  | .rol _, q, h, _ => by simp [kin, okD] at h
  | .dct _ _ _, q, h, _ => by simp [kin, okD] at h
  | .obj _ _ _, q, h, _ => by simp [kin, okD] at h
  | .loc _, q, h, _ => by simp [kin, okD] at h
theorem eqBL_nkI : ∀ ps qs : List PV, okDL ps = true → keyOk.noLstL ps = true → okDL qs = true → keyOk.noLstL qs = true → (eqBL ps qs = true ↔ nkL ps = nkL qs)
  | [], qs, _, _, _, _ => by cases qs <;> simp [eqBL, nkL]
  | p :: ps, qs, h1, h2, h3, h4 => by
    cases qs with
    | nil => simp [eqBL, nkL]
    | cons q qs =>
      simp only [okDL, keyOk.noLstL, Bool.and_eq_true] at h1 h2 h3 h4
      simp only [eqBL, nkL, Bool.and_eq_true, List.cons.injEq]
      rw [eqB_nkI p q (by simp only [kin, Bool.and_eq_true]; exact ⟨h1.1, h2.1⟩) (by simp only [kin, Bool.and_eq_true]; exact ⟨h3.1, h4.1⟩), eqBL_nkI ps qs h1.2 h2.2 h3.2 h4.2]
end
theorem eqB_nk (p q : PV) (h : kin p = true) (h' : kin q = true) : eqB p q = decide (nk p = nk q) := by
  have := eqB_nkI p q h h'
  by_cases e : nk p = nk q
  · rw [decide_eq_true e]; exact this.mpr e
  · rw [decide_eq_false e]
    cases c : eqB p q with
    | false => rfl
    | true => exact (e (this.mp c)).elim
theorem nk_inj_eqB {p q : PV} (h : kin p = true) (h' : kin q = true) : eqB p q = decide (nk p = nk q) := eqB_nk p q h h'
mutual
theorem depth_nk : ∀ p : PV, kin p = true → (nk p).depth = dep p
  | .non, _ => by simp [nk, NestedKey.depth, dep]
  | .bl _, _ => by simp [nk, NestedKey.depth, dep]
  | .int _, _ => by simp [nk, NestedKey.depth, dep]
  | .str _, _ => by simp [nk, NestedKey.depth, dep]
  | .tup xs, h => by
    simp only [kin, okD, keyOk.noLst, Bool.and_eq_true] at h
    simp only [nk, NestedKey.depth, dep]
    rw [depth_nkL xs h.1 h.2]
  | .lst _, h => by simp [kin, keyOk.noLst] at h
  | .rol _, h => by simp [kin, okD] at h
  | .dct _ _ _, h => by simp [kin, okD] at h
  | .obj _ _ _, h => by simp [kin, okD] at h
  | .loc _, h => by simp [kin, okD] at h
theorem depth_nkL : ∀ ps : List PV, okDL ps = true → keyOk.noLstL ps = true → NestedKey.depthAll (nkL ps) = depL ps
  | [], _, _ => by simp [nkL, NestedKey.depthAll, depL]
  | p :: ps, h1, h2 => by
    simp only [okDL, keyOk.noLstL, Bool.and_eq_true] at h1 h2
    simp only [nkL, NestedKey.depthAll, depL]
    rw [depth_nk p (by simp only [kin, Bool.and_eq_true]; exact ⟨h1.1, h2.1⟩), depth_nkL ps h1.2 h2.2]
end
section
variable {Z : Wd} {H : Hp} {b : Ban} {ads : Ads}
mutual
theorem Rp.nkh : ∀ (p : PV) (x : V), Rp Z H b ads p x → kin p = true → NkH Z.K H (nk p) x
  | .non, x, h, _ => by rw [h.non]; exact .non
  | .bl _, x, h, _ => by rw [h.bl]; exact .bl _
  | .int _, x, h, _ => by rw [h.int]; exact .int _
  | .str _, x, h, _ => by rw [h.str]; exact .str _
  | .tup xs, x, h, k => by
    obtain ⟨a, vs, e, q, r⟩ := h.tup
    rw [e]
    simp only [kin, okD, keyOk.noLst, Bool.and_eq_true] at k
    exact .tup q (RpL.nkh xs vs r k.1 k.2)
  | .lst _, _, _, h => by simp [kin, keyOk.noLst] at h
  | .rol _, _, _, h => by simp [kin, okD] at h
  | .dct _ _ _, _, _, h => by simp [kin, okD] at h
  | .obj _ _ _, _, _, h => by simp [kin, okD] at h
  | .loc _, _, _, h => by simp [kin, okD] at h
theorem RpL.nkh : ∀ (ps : List PV) (xs : List V), RpL Z H b ads ps xs → okDL ps = true → keyOk.noLstL ps = true → NkHs Z.K H (nkL ps) xs
  | [], xs, h, _, _ => by rw [h.nil_inv]; exact .nil
  | p :: ps, xs, h, k1, k2 => by
    obtain ⟨v, ws, e, r1, r2⟩ := h.cons_inv
    subst e
    simp only [okDL, keyOk.noLstL, Bool.and_eq_true] at k1 k2
    exact .cons (Rp.nkh p v r1 (by simp only [kin, Bool.and_eq_true]; exact ⟨k1.1, k2.1⟩)) (RpL.nkh ps ws r2 k1.2 k2.2)
end
theorem key_nkh {p : PV} {x : V} (h : Rp Z H b ads p x) (k : keyOk true p = true) : ∃ ka, x = .ref ka ∧ NkH Z.K H (nk p) (.ref ka) ∧ (nk p).depth ≤ 8 := by
  obtain ⟨xs, e, h1, h2⟩ := keyOk_tup k
  have q := Rp.nkh p x h h1
  subst e
  obtain ⟨a, vs, e, _⟩ := h.tup
  subst e
  exact ⟨a, rfl, q, by rw [depth_nk _ h1]; omega⟩
/-- the parts of a dict of tuples -/
structure DctN (Z : Wd) (H : Hp) (b : Ban) (ads : Ads) (xs : List (NestedKey × Addr × Value)) (ks ws : List PV) : Prop where
  ok : ks.all (keyOk true) = true
  nks : xs.map (·.1) = nkL ks
  rk : RpL Z H b ads ks (xs.map fun p => V.ref p.2.1)
  rv : ∃ vs, RpL Z H b ads ws vs ∧ Vals vs (xs.map (·.2.2))
theorem DctN.len {xs : List (NestedKey × Addr × Value)} {ks ws : List PV} (d : DctN Z H b ads xs ks ws) : xs.length = ks.length ∧ ws.length = ks.length := by
  have h1 := d.rk.length
  obtain ⟨vs, h2, h3⟩ := d.rv
  have h4 := h2.length
  have h5 := h3.length
  simp at h1 h5
  omega
theorem DctN.ks_ok : ∀ {xs : List (NestedKey × Addr × Value)} {ks : List PV}, ks.all (keyOk true) = true → xs.map (·.1) = nkL ks → RpL Z H b ads ks (xs.map fun p => V.ref p.2.1) → KsOk Z.K H xs
  | [], _, _, _, _ => fun x hx => nomatch hx
  | y :: xs, ks, h1, h2, h3 => by
    cases ks with
    | nil => simp [nkL] at h2
    | cons k ks =>
      simp only [List.map_cons, nkL, List.cons.injEq] at h2
      simp only [List.all_cons, Bool.and_eq_true] at h1
      obtain ⟨v, us, e, r1, r2⟩ := h3.cons_inv
      simp only [List.map_cons, List.cons.injEq] at e
      have ih := DctN.ks_ok h1.2 h2.2 (by rw [e.2]; exact r2)
      obtain ⟨ka, ex, q1, q2⟩ := key_nkh r1 h1.1
      intro x hx
      rcases List.mem_cons.mp hx with z | hx
      · subst z
        rw [h2.1, e.1, ex]
        exact ⟨q1, q2⟩
      · exact ih x hx
theorem DctN.ks {xs : List (NestedKey × Addr × Value)} {ks ws : List PV} (d : DctN Z H b ads xs ks ws) : KsOk Z.K H xs := DctN.ks_ok d.ok d.nks d.rk
theorem DctN.tail {y : NestedKey × Addr × Value} {xs : List (NestedKey × Addr × Value)} {k w : PV} {ks ws : List PV} (d : DctN Z H b ads (y :: xs) (k :: ks) (w :: ws)) :
    DctN Z H b ads xs ks ws ∧ keyOk true k = true ∧ y.1 = nk k ∧ Rp Z H b ads k (.ref y.2.1) ∧ ∃ v, Rp Z H b ads w v ∧ RelV v y.2.2 := by
  obtain ⟨h1, h2, h3, vs, h4, h5⟩ := d
  simp only [List.map_cons, nkL, List.cons.injEq] at h2
  simp only [List.all_cons, Bool.and_eq_true] at h1
  obtain ⟨v, us, e, r1, r2⟩ := h3.cons_inv
  simp only [List.map_cons, List.cons.injEq] at e
  obtain ⟨v', us', e', r1', r2'⟩ := h4.cons_inv
  subst e'
  rw [List.map_cons] at h5
  cases h5 with
  | cons q1 q2 =>
    refine ⟨⟨h1.2, h2.2, by rw [e.2]; exact r2, us', r2', q2⟩, h1.1, h2.1, by rw [e.1]; exact r1, v', r1', q1⟩
theorem DctN.get {k : PV} (hk : keyOk true k = true) : ∀ {xs : List (NestedKey × Addr × Value)} {ks ws : List PV}, DctN Z H b ads xs ks ws →
    (∀ w, dget k ks ws = some w → ∃ p v, atKey xs (nk k) = some p ∧ RelV v p.2 ∧ Rp Z H b ads w v) ∧ (dget k ks ws = none → atKey xs (nk k) = none)
  | [], ks, ws, d => by
    have := d.len
    have e1 : ks = [] := List.eq_nil_of_length_eq_zero (by simp at this; omega)
    subst e1
    exact ⟨fun w h => by simp [dget] at h, fun _ => rfl⟩
  | y :: xs, ks, ws, d => by
    have hl := d.len
    cases ks with
    | nil => simp at hl
    | cons k0 ks =>
      cases ws with
      | nil => simp at hl
      | cons w0 ws =>
        obtain ⟨d', ko, e1, r1, v, r2, r3⟩ := d.tail
        obtain ⟨_, _, q1, _⟩ := keyOk_tup hk
        obtain ⟨_, _, q2, _⟩ := keyOk_tup ko
        have eq : eqB k0 k = decide (y.1 = nk k) := by rw [eqB_nk k0 k q2 q1, e1]
        simp only [dget]
        rw [eq]
        by_cases c : y.1 = nk k
        · rw [decide_eq_true c, if_pos rfl]
          refine ⟨fun w h => ?_, fun h => nomatch h⟩
          cases h
          exact ⟨y.2, v, by simp [atKey, List.find?_cons, c], r3, r2⟩
        · rw [decide_eq_false c, if_neg (by decide)]
          obtain ⟨i1, i2⟩ := DctN.get hk d'
          have ea : atKey (y :: xs) (nk k) = atKey xs (nk k) := by simp [atKey, List.find?_cons, c]
          rw [ea]
          exact ⟨i1, i2⟩
theorem DctN.isSome {k : PV} (hk : keyOk true k = true) {xs : List (NestedKey × Addr × Value)} {ks ws : List PV} (d : DctN Z H b ads xs ks ws) : (atKey xs (nk k)).isSome = (dget k ks ws).isSome := by
  obtain ⟨h1, h2⟩ := DctN.get hk d
  cases e : dget k ks ws with
  | none => rw [h2 e]; rfl
  | some w => obtain ⟨p, v, q, _⟩ := h1 w e; rw [q]; rfl
theorem DctN.any {k : PV} (hk : keyOk true k = true) : ∀ {xs : List (NestedKey × Addr × Value)} {ks ws : List PV}, DctN Z H b ads xs ks ws → (ks.any fun x => eqB x k) = (atKey xs (nk k)).isSome
  | [], ks, ws, d => by
    have := d.len
    have e1 : ks = [] := List.eq_nil_of_length_eq_zero (by simp at this; omega)
    subst e1
    rfl
  | y :: xs, ks, ws, d => by
    have hl := d.len
    cases ks with
    | nil => simp at hl
    | cons k0 ks =>
      cases ws with
      | nil => simp at hl
      | cons w0 ws =>
        obtain ⟨d', ko, e1, r1, v0, r2, r3⟩ := d.tail
        obtain ⟨_, _, q1, _⟩ := keyOk_tup hk
        obtain ⟨_, _, q2, _⟩ := keyOk_tup ko
        have eq : eqB k0 k = decide (y.1 = nk k) := by rw [eqB_nk k0 k q2 q1, e1]
        rw [List.any_cons, eq, DctN.any hk d']
        by_cases c : y.1 = nk k
        · simp [atKey, List.find?_cons, c]
        · simp [atKey, List.find?_cons, c]
theorem DctN.repl {k v : PV} (hk : keyOk true k = true) {x : V} {u : Value} (rv : Rp Z H b ads v x) (ru : RelV x u) : ∀ {xs : List (NestedKey × Addr × Value)} {ks ws : List PV}, DctN Z H b ads xs ks ws →
    DctN Z H b ads (xs.map (putAt (nk k) u)) ks (Zk.repl k v ks ws)
  | [], ks, ws, d => by
    have := d.len
    have e1 : ks = [] := List.eq_nil_of_length_eq_zero (by simp at this; omega)
    subst e1
    simpa [Zk.repl] using d
  | y :: xs, ks, ws, d => by
    have hl := d.len
    cases ks with
    | nil => simp at hl
    | cons k0 ks =>
      cases ws with
      | nil => simp at hl
      | cons w0 ws =>
        obtain ⟨d', ko, e1, r1, v0, r2, r3⟩ := d.tail
        obtain ⟨_, _, q1, _⟩ := keyOk_tup hk
        obtain ⟨_, _, q2, _⟩ := keyOk_tup ko
        have eq : eqB k0 k = decide (y.1 = nk k) := by rw [eqB_nk k0 k q2 q1, e1]
        obtain ⟨g1, g2, g3, vs, g4, g5⟩ := DctN.repl hk rv ru d'
        simp only [Zk.repl]
        rw [eq]
        by_cases c : y.1 = nk k
        · rw [decide_eq_true c, if_pos rfl]
          have e3 : putAt (nk k) u y = (y.1, y.2.1, u) := by simp [putAt, c]
          rw [List.map_cons, e3]
          exact ⟨by simp only [List.all_cons, Bool.and_eq_true]; exact ⟨ko, g1⟩, by simp only [List.map_cons, nkL, e1, g2], RpL.cons r1 g3, x :: vs, RpL.cons rv g4, .cons ru g5⟩
        · rw [decide_eq_false c, if_neg (by decide)]
          have e3 : putAt (nk k) u y = y := by simp [putAt, c]
          rw [List.map_cons, e3]
          exact ⟨by simp only [List.all_cons, Bool.and_eq_true]; exact ⟨ko, g1⟩, by simp only [List.map_cons, nkL, e1, g2], RpL.cons r1 g3, v0 :: vs, RpL.cons r2 g4, .cons r3 g5⟩
theorem nkL_append : ∀ ps qs : List PV, nkL (ps ++ qs) = nkL ps ++ nkL qs
  | [], qs => by simp [nkL]
  | p :: ps, qs => by simp [nkL, nkL_append ps qs]
theorem DctN.put {k v : PV} (hk : keyOk true k = true) {ka : Addr} {x : V} {u : Value} (rk : Rp Z H b ads k (.ref ka)) (rv : Rp Z H b ads v x) (ru : RelV x u) {xs : List (NestedKey × Addr × Value)} {ks ws : List PV} (d : DctN Z H b ads xs ks ws) :
    DctN Z H b ads (storedH xs (nk k) ka u) (dput k v ks ws).1 (dput k v ks ws).2 := by
  unfold dput storedH
  rw [d.any hk]
  split
  · exact d.repl hk rv ru
  · obtain ⟨g1, g2, g3, vs, g4, g5⟩ := d
    refine ⟨?_, ?_, ?_, vs ++ [x], RpL.append g4 (RpL.cons rv RpL.nil), ?_⟩
    · simp only [List.all_append, List.all_cons, List.all_nil, Bool.and_true, Bool.and_eq_true]; exact ⟨g1, hk⟩
    · rw [List.map_append, nkL_append, g2]; simp [nkL]
    · rw [List.map_append]; exact RpL.append g3 (RpL.cons rk RpL.nil)
    · rw [List.map_append]; exact g5.append (.cons ru .nil)
theorem keyP {k : PV} (h : keyOk false k = true) : ∃ y : Key, k = kP y := by
  cases k with
  | int i => exact ⟨.inl i, rfl⟩
  | str x => exact ⟨.inr x, rfl⟩
  | _ => simp [keyOk] at h
theorem eqB_kP (a c : Key) : eqB (kP a) (kP c) = decide (a = c) := by
  cases a <;> cases c <;> simp [kP, eqB]
  · rfl
  · rfl
theorem rp_kP {y : Key} {x : V} (h : Rp Z H b ads (kP y) x) : x = kV y := by
  cases y with
  | inl i => exact h.int
  | inr z => exact h.str
theorem dget_K (y : Key) : ∀ {kvs : List (Key × V)} {ws : List PV}, RpL Z H b ads ws (kvs.map (·.2)) →
    (∀ w, dget (kP y) (kvs.map fun p => kP p.1) ws = some w → ∃ v, valV kvs y = some v ∧ Rp Z H b ads w v) ∧ (dget (kP y) (kvs.map fun p => kP p.1) ws = none → valV kvs y = none)
  | [], ws, h => by
    have := h.length
    exact ⟨fun w h => by simp [dget] at h, fun _ => rfl⟩
  | p :: kvs, ws, h => by
    cases ws with
    | nil => have := h.length; simp at this
    | cons w0 ws =>
      obtain ⟨v, us, e, r1, r2⟩ := h.cons_inv
      simp only [List.map_cons, List.cons.injEq] at e
      have ih := dget_K y (kvs := kvs) (by rw [e.2]; exact r2)
      simp only [List.map_cons, dget]
      rw [eqB_kP]
      by_cases c : p.1 = y
      · rw [decide_eq_true c, if_pos rfl]
        refine ⟨fun w h => ?_, fun h => nomatch h⟩
        cases h
        exact ⟨p.2, by simp [valV, List.find?_cons, c], by rw [e.1]; exact r1⟩
      · rw [decide_eq_false c, if_neg (by decide)]
        have ea : valV (p :: kvs) y = valV kvs y := by simp [valV, List.find?_cons, c]
        rw [ea]
        exact ih
theorem any_K (y : Key) : ∀ kvs : List (Key × V), ((kvs.map fun p => kP p.1).any fun x => eqB x (kP y)) = kvs.any fun kv => decide (kv.1 = y)
  | [] => rfl
  | p :: kvs => by simp only [List.map_cons, List.any_cons]; rw [eqB_kP, any_K y kvs]
theorem repl_K {v : PV} {x : V} (y : Key) (rv : Rp Z H b ads v x) : ∀ {kvs : List (Key × V)} {ws : List PV}, RpL Z H b ads ws (kvs.map (·.2)) →
    RpL Z H b ads (Zk.repl (kP y) v (kvs.map fun p => kP p.1) ws) ((kvs.map fun kv => if kv.1 = y then (kv.1, x) else kv).map (·.2))
  | [], ws, h => by simpa [Zk.repl] using h
  | p :: kvs, ws, h => by
    cases ws with
    | nil => have := h.length; simp at this
    | cons w0 ws =>
      obtain ⟨v', us, e, r1, r2⟩ := h.cons_inv
      simp only [List.map_cons, List.cons.injEq] at e
      have ih := repl_K y rv (kvs := kvs) (by rw [e.2]; exact r2)
      simp only [List.map_cons, Zk.repl]
      rw [eqB_kP]
      by_cases c : p.1 = y
      · rw [decide_eq_true c, if_pos rfl, if_pos c]; exact RpL.cons rv ih
      · rw [decide_eq_false c, if_neg (by decide), if_neg c]; exact RpL.cons (by rw [e.1]; exact r1) ih
theorem dput_K {v : PV} {x : V} (y : Key) (rv : Rp Z H b ads v x) {kvs : List (Key × V)} {ws : List PV} (h : RpL Z H b ads ws (kvs.map (·.2))) :
    (dput (kP y) v (kvs.map fun p => kP p.1) ws).1 = (putK kvs y x).map (fun p => kP p.1) ∧ RpL Z H b ads (dput (kP y) v (kvs.map fun p => kP p.1) ws).2 ((putK kvs y x).map (·.2)) := by
  unfold dput putK
  rw [any_K]
  split
  · refine ⟨?_, repl_K y rv h⟩
    show kvs.map (fun p => kP p.1) = _
    rw [List.map_map]
    exact List.map_congr_left fun p _ => by simp only [Function.comp]; split <;> rfl
  · refine ⟨by simp, ?_⟩
    rw [List.map_append]
    exact RpL.append h (RpL.cons rv RpL.nil)
end
end Zk
-- ZkS
set_option maxHeartbeats 4000000
namespace Zk
open PySem PySem.Spec PyProof.Rows L2
section
variable {prog : Program} {w : World} {A : Around} {E : Value → Shared → Prop} {s : Shared}
theorem gather_tup {t : Addr} {vs : List Value} {Q : List Value → Shared → Prop} (ht : IsTup s.heap t vs.toArray)
    (h : Q vs { s with heap := (s.heap.push (seqObj "list" #[] 0)).update s.heap.objs.size (Obj.mapSeq (· ++ vs.toArray)) }) (hsz : vs.length ≤ sizeLine) :
    wpAny (model prog w) A (collect (.ref t)) Q E s := by
  obtain ⟨ob, h1, h2, n, h3⟩ := id ht
  unfold collect
  refine wpAny_bind (wpAny_runValue (codeAny_builtin entry_proto_collect' ?_))
  refine wpAny_bind (wpAny_newList (wpAny_pure ⟨Code.quiet_builtin _ (by decide +kernel), codeAny_builtin entry_list_iadd' ?_⟩))
  show wpAny (model prog w) _ (Builtin.List.listExtendWith (.ref s.heap.objs.size) (.ref t) (.ref s.heap.objs.size)) _ _ { s with heap := s.heap.push (seqObj "list" #[] 0) }
  unfold Builtin.List.listExtendWith
  have h4 : (s.heap.push (seqObj "list" #[] 0)).get? t = some ob := Heap.get?_push_of_some _ h1
  refine wpAny_bind (wpAny_typeOf (T := "tuple") ⟨ob, h4, h2⟩ ?_)
  have q1 : (Value.type "tuple" == Value.type "tuple") = true := by rfl
  have q2 : (Value.type "tuple" == Value.type "list") = false := by decide
  first
    | rw [if_pos (by rw [q1]; simp)]
    | rw [if_pos (by rw [q2, q1]; rfl)]
  have hn : (s.heap.push (seqObj "list" #[] 0)).get? s.heap.objs.size = some (seqObj "list" #[] 0) := Heap.get?_push_size _ rfl
  refine wpAny_bind (listItems_at h4 h3 ?_)
  refine wpAny_bind (listItems_at (xs := #[]) (n := 0) hn rfl ?_)
  rw [if_neg (by simp)]
  refine wpAny_bind (listUpdate_at (xs := #[]) (n := 0) hn rfl ?_ (Nat.zero_le _) (by simp only [Array.size_append, List.size_toArray, List.length_nil]; omega))
  refine wpAny_pure ?_
  refine wpAny_bind (wpAny_load (get?_update_seq hn _) ?_)
  show wpAny (model prog w) A (pure ((#[] : Array Value) ++ vs.toArray).toList) Q E _
  have e9 : ((#[] : Array Value) ++ vs.toArray).toList = vs := by simp
  rw [e9]
  exact wpAny_pure h
theorem sorted_tupI {t : Addr} {vs : List Value} {ns : List Int} {Q : Value → Shared → Prop} (ht : IsTup s.heap t vs.toArray) (hI : IntsAre vs ns) (h64 : vs.length < 64)
    (h : ∀ (out : Array Value) (ns' : List Int), IntsAre out.toList ns' → ns'.Perm ns → ns'.Pairwise (· ≤ ·) → Q (.ref (s.heap.objs.size + 1)) { s with heap := sortedAll s.heap vs out }) :
    wpAny (model prog w) A (call (.builtin "sorted") [.ref t]) Q E s := by
  refine Calls.call_function_entry kind_sorted plain_sorted entry_sorted (args_sorted1 _) ?_
  unfold Builtin.«sorted»
  refine wpAny_bind (m := checkCount "sorted" 1 1 _) (wpAny_pure ?_)
  refine wpAny_bind (gather_tup ht ?_ (by rw [sizeLine_eq]; omega))
  refine wpAny_bind (wpAny_newList ?_)
  have z1 : ((s.heap.push (seqObj "list" #[] 0)).update s.heap.objs.size (Obj.mapSeq (· ++ vs.toArray))).objs.size = s.heap.objs.size + 1 := by rw [Heap.size_update, size_push']
  have z2 : (((s.heap.push (seqObj "list" #[] 0)).update s.heap.objs.size (Obj.mapSeq (· ++ vs.toArray))).push (seqObj "list" vs.toArray 0)).get? (s.heap.objs.size + 1) = some (seqObj "list" vs.toArray 0) := by
    rw [← z1]
    exact Heap.get?_push_size _ rfl
  show wpAny (model prog w) A.in1 _ _ _ { s with heap := ((s.heap.push (seqObj "list" #[] 0)).update s.heap.objs.size (Obj.mapSeq (· ++ vs.toArray))).push (seqObj "list" vs.toArray 0) }
  rw [z1]
  refine wpAny_bind (wpAny_holding (wpAny_call_entry slot_list_sort ⟨_, z2, rfl⟩ entry_list_sort (list_sort_tree z2 hI h64 fun out ns' b1 b2 b3 => ⟨_, rfl, ?_⟩) (args_list_sort _)))
  exact wpAny_pure ⟨_, rfl, h out ns' b1 b2 b3⟩
end
/-- sorted(t), t a tuple of ints -/
def rSortTI (K : PySem.W.Frag) : List V → Hp → VK → Prop := fun vs H Q => ∃ (a : Addr) (ns : List Int), vs = [V.ref a] ∧ SqT K H a (ns.map V.int) ∧ ns.length < 64 ∧ ∀ (ns' : List Int) (p : Addr), ns'.Perm ns → ns'.Pairwise (· ≤ ·) → H p = none → Q (.ref p) (upd H p (.lst (ns'.map V.int)))
theorem cr_sortTI {X : Cx} : CallR X (.builtin "sorted") (rSortTI X.K) := by
  intro pins s σ H vs us Q I r h
  obtain ⟨a, ns, rfl, hs, h64, q⟩ := h
  obtain ⟨its, rv, ht, _⟩ := I.tuple hs
  rw [Vals.ref1 r]
  have hi := rv.ints
  refine sorted_tupI ht hi (by rw [hi.length]; exact h64) fun out ns' b1 b2 b3 => ?_
  obtain ⟨ep, he⟩ := sortedAll_at s.heap its out
  have hl : (ns'.map V.int).length ≤ sizeLine := by rw [List.length_map, b2.length_eq, sizeLine_eq]; omega
  exact ⟨.ref _, upd H (s.heap.objs.size + 1) (.lst (ns'.map V.int)), I.laid (t' := s.toks) (fun _ _ => sortedAll_old) (Nat.le_succ _) ⟨hl, out.toList, ep, vals_of_ints b1, he⟩, rfl, q ns' _ b2 b3 (I.hok.fresh (Nat.le_succ _))⟩
end Zk
-- ZkN
set_option maxHeartbeats 4000000
namespace Zk
open PySem PySem.Spec PyProof.Rows L2

section
variable {prog : Program} {w : World} {A : Around} {E : Value → Shared → Prop} {s : Shared}
theorem quiet_none {n : Nat} {Q : Bool → Shared → Prop} (h : Q true s) : wpAny (model prog w) A (eqIsQuiet n .none) Q E s := QuietAt.byValue (by decide) A E Q h
theorem tell_none {stored : List Value} {Q : Bool → Shared → Prop} (hst : ∀ v ∈ stored, ∃ k b, v = .ref b ∧ NestedIs s.heap k v ∧ k.depth ≤ 8) (h : Q false s) : wpAny (model prog w) A (tableMayTell .none stored) Q E s := by
  unfold tableMayTell
  split
  · exact wpAny_pure h
  · refine wpAny_bind (quiet_none ?_)
    simp only [Bool.not_true, Bool.false_eq_true, if_false]
    refine wpAny_bind ?_
    refine wpAny_forIn_list _ (fun rest r t => t = s ∧ r = (none, ()) ∧ ∀ v ∈ rest, ∃ k b, v = .ref b ∧ NestedIs s.heap k v ∧ k.depth ≤ 8) _ ?_ ?_ _ _ ⟨rfl, rfl, hst⟩
    · rintro x rest r t ⟨rfl, rfl, hr⟩
      obtain ⟨k', b, rfl, hb, hb8⟩ := hr x List.mem_cons_self
      refine wpAny_bind (quiet_key k' _ 8 t hb hb8 _ _ _ ?_)
      simp only [Bool.not_true, Bool.false_eq_true, if_false]
      exact wpAny_pure ⟨rfl, rfl, fun v hv => hr v (List.mem_cons_of_mem _ hv)⟩
    · rintro r t ⟨rfl, rfl, _⟩
      exact wpAny_pure h
theorem find_none {d : Addr} {o : Obj} {es : Array DictEntry} {ep : Nat} {xs : List (NestedKey × Addr × Value)} {c : Int} {Q : Option Nat → Shared → Prop} (hu : A.units + 8 < cLine) (ho : s.heap.get? d = some o) (hd : o.data = .dict es ep) (he : es.toList = xs.map (entryOfKey (nestedKind prog w)))
    (hk : ∀ x ∈ xs, (∃ ks, x.1 = .tup ks) ∧ NestedIs s.heap x.1 (.ref x.2.1) ∧ x.1.depth ≤ 8) (h : Q none s) : wpAny (model prog w) A (dictFind d .none c) Q E s := by
  have hmem : ∀ (i : Nat) e, es[i]? = some e → ∃ x ∈ xs, e.key = .ref x.2.1 := fun i e hi => by
    have q : e ∈ xs.map (entryOfKey (nestedKind prog w)) := he ▸ Array.mem_toList_iff.mpr (Array.mem_of_getElem? hi)
    obtain ⟨x, hx, rfl⟩ := List.mem_map.mp q
    exact ⟨x, hx, rfl⟩
  unfold dictFind
  try with_reducible refine wpAny_holding ?_
  refine wpAny_bind (wpAny_dictEntries ho hd ?_)
  dsimp only
  generalize hpl : placesWithHash es.size (fun i => es[i]?.map (·.hash)) c = pl
  have hst : ∀ v ∈ pl.filterMap (fun i => es[i]?.map (·.key)), ∃ k b, v = .ref b ∧ NestedIs s.heap k v ∧ k.depth ≤ 8 := by
    intro v hv
    obtain ⟨i, _, hi⟩ := List.mem_filterMap.mp hv
    cases hei : es[i]? with
    | none => rw [hei] at hi; cases hi
    | some e =>
      rw [hei] at hi
      obtain ⟨x, hx, ex⟩ := hmem i e hei
      have ev : v = e.key := by simpa using hi.symm
      rw [ev, ex]
      exact ⟨x.1, x.2.1, rfl, (hk x hx).2⟩
  by_cases hall : ((Value.none :: pl.filterMap (fun i => es[i]?.map (·.key))).all carriedByValue) = true
  · rw [if_pos hall]
    have hno : pl = [] := by
      cases hp : pl with
      | nil => rfl
      | cons i r =>
        have hi : i ∈ placesWithHash es.size (fun i => es[i]?.map (·.hash)) c := by rw [hpl, hp]; exact List.mem_cons_self
        unfold placesWithHash at hi
        obtain ⟨h1, h2⟩ := List.mem_filter.mp hi
        have hlt : i < es.size := by simpa using h1
        obtain ⟨x, hx, ex⟩ := hmem i es[i] (Array.getElem?_eq_getElem hlt)
        rw [hp, List.filterMap_cons, Array.getElem?_eq_getElem hlt] at hall
        simp [ex, carriedByValue] at hall
    rw [hno]
    unfold dictWalkPlain
    exact wpAny_bind (wpAny_forIn_list _ (fun rest r t => t = s ∧ rest = [] ∧ r = (none, ())) _ (fun _ _ _ _ q => by cases q.2.1) (fun r t q => by
      obtain ⟨rfl, _, rfl⟩ := q
      exact wpAny_pure h) _ _ ⟨rfl, rfl, rfl⟩)
  · rw [if_neg hall]
    have hne : ¬ (pl.filterMap (fun i => es[i]?.map (·.key)) == [Value.none]) = true := fun q => by
      have q : pl.filterMap (fun i => es[i]?.map (·.key)) = [Value.none] := by simpa using q
      obtain ⟨k, b, e, _⟩ := hst .none (by rw [q]; exact List.mem_cons_self)
      cases e
    rw [if_neg hne]
    refine wpAny_bind (tell_none hst ?_)
    rw [if_neg (by simp)]
    refine wpAny_bind (wpAny_forIn_list _ (fun _ r t => t = s ∧ r = (none, none)) _ ?_ ?_ _ _ ⟨rfl, rfl⟩)
    · rintro i rest r t ⟨rfl, rfl⟩
      cases hei : es[i]? with
      | none => exact wpAny_pure ⟨rfl, rfl⟩
      | some e =>
        dsimp only
        by_cases hh : (e.hash == c) = true
        · rw [if_pos hh]
          obtain ⟨x, hx, ex⟩ := hmem i e hei
          obtain ⟨⟨ks, ek⟩, hn, h8⟩ := hk x hx
          refine wpAny_bind (wpAny_dictEpoch ho hd (wpAny_bind ?_))
          rw [ex]
          have hq := eqAt_key x.1 .none A t _ _ hn .none (by
            have : min x.1.depth NestedKey.none.depth ≤ 8 := Nat.le_trans (Nat.min_le_left _ _) h8
            omega)
          have hb : NestedKey.beq x.1 .none = false := by rw [ek]; rfl
          rw [hb] at hq
          refine hq prog w _ _ (wpAny_bind (wpAny_dictEpoch ho hd ?_))
          rw [if_neg (by simp), if_neg (by simp)]
          refine wpAny_bind (wpAny_rule ?_)
          rw [if_neg (by simp)]
          exact wpAny_pure ⟨rfl, rfl⟩
        · rw [if_neg hh]
          exact wpAny_pure ⟨rfl, rfl⟩
    · rintro r t ⟨rfl, rfl⟩
      exact wpAny_pure h
end
section
variable {X : Cx}
/-- None is not in it -/
theorem has_none {n : Nat} {pins : List (Addr × Obj)} {σ : L2.St} {H : Hp} {s : Shared} {E : Value → Shared → Prop} {d : Addr} {xs : List (NestedKey × Addr × Value)} {Q : Bool → Shared → Prop} (hr : Room n X.A) (I : Inv X pins σ H s) (hd : IsDN H X.prog X.w d xs) (hk : KsOk X.K H xs) (ht : ∀ x ∈ xs, ∃ ks, x.1 = .tup ks)
    (h : ∀ t, Q false { s with toks := t }) : wpAny (model X.prog X.w) X.A (contains (.ref d) .none) Q E s := by
  obtain ⟨z1, z2, dd⟩ := dn_of I hd hk
  have hm : s.heap.DictKeyed (nestedKind X.prog X.w) d (pairsH xs) := ⟨xs, dd, rfl⟩
  refine wpAny_contains_slot hm.typeIs F.slot_dict_contains ?_
  refine call_meetsIn F.slot_dict_contains hm.typeIs F.entry_dict_contains (F.args_dict_contains_2 _ _) (S := fun A' R s' => A' = X.A ∧ s' = s ∧ ∀ t, R (.ok (.ret (.bool false))) { s with toks := t }) (fun A' R s' hS => ?_) ⟨rfl, rfl, fun t => wpAny_truthy_bool (h t)⟩
  obtain ⟨rfl, rfl, hq⟩ := hS
  show wpAny _ _ (dictGet d .none >>= _) _ _ _
  refine wpAny_bind ?_
  unfold dictGet
  try with_reducible refine wpAny_holding ?_
  obtain ⟨o, es, ep, ho, _, hd', he, his, hn⟩ := dd
  have hu : X.A.in1.units + 8 < cLine := room_n (X := X) hr
  refine wpAny_bind (pyHash_key .none .none _ _ _ .none (by show X.A.in1.units + 0 < cLine; omega) (wpAny_bind (find_none (s := { s' with toks := _ }) hu ho hd' he (fun x hx => ⟨ht x hx, his x hx⟩) (wpAny_pure ?_))))
  show wpAny _ _ (Builtin.Dict.pendingKey? d .none >>= _) _ _ _
  exact wpAny_bind (wpAny_pendingKey_other z1 (wpAny_pure (hq _)))
def rInO (P : Program) (w : World) (K : PySem.W.Frag) (f : Bool → Bool) : R2 := fun x y H Q => ∃ (d : Addr) (xs : List (NestedKey × Addr × Value)), x = .non ∧ y = .ref d ∧ IsDN H P w d xs ∧ KsOk K H xs ∧ (∀ x ∈ xs, ∃ ks, x.1 = .tup ks) ∧ Q (.bl (f false)) H
theorem op_inO {n : Nat} (hr : Room n X.A) : OpR X (compareOp .In) (rInO X.prog X.w X.K id) := by
  intro pins s σ H x y v u Q I rx ry h
  obtain ⟨d, xs, rfl, rfl, hd, hk, ht, q⟩ := h
  cases rx
  cases ry
  show wpAny (model X.prog X.w) X.A (do return Value.bool (← contains (.ref d) .none)) (EP X pins σ Q) X.xe s
  exact wpAny_bind (has_none hr I hd hk ht fun t => wpAny_pure ⟨.bl _, H, I.tok _, rfl, q⟩)
theorem op_notInO {n : Nat} (hr : Room n X.A) : OpR X (compareOp .NotIn) (rInO X.prog X.w X.K (!·)) := by
  intro pins s σ H x y v u Q I rx ry h
  obtain ⟨d, xs, rfl, rfl, hd, hk, ht, q⟩ := h
  cases rx
  cases ry
  show wpAny (model X.prog X.w) X.A (do return Value.bool (!(← contains (.ref d) .none))) (EP X pins σ Q) X.xe s
  exact wpAny_bind (has_none hr I hd hk ht fun t => wpAny_pure ⟨.bl _, H, I.tok _, rfl, q⟩)
end
end Zk
-- Zk7
set_option maxHeartbeats 4000000
namespace Zk
open PySem PySem.Spec L2

section
variable {Z : Wd} {W : WX} {X : Cx} {k : Nat} {e a b c : Expr} {es : List Expr} {d da db dc : Sl → Store → R PV} {pos : Pos}

theorem s_tup {x1 : Nat} (h : PA X es (tA Z W d)) : PE X (.Tuple es x1 pos) (tE Z W fun ρ M => (d ρ M).bind fun w M1 => if (bargs w).length ≤ mostLen then .ok (.tup (bargs w)) M1 else .bad) :=
  impE (pe_tup h) fun σ H Q ⟨bn, ads, M, ρ, st, sl, h⟩ => ⟨bn, ads, M, ρ, st, sl, h.bindA.mono fun xs H1 ⟨ads1, v, M1, f1, st1, r1, h1⟩ => by
    split at h1
    · rename_i hl
      exact ⟨most_le (by rw [← r1.length]; exact hl), fun p hp => h1.newTup st1 r1 hp⟩
    · exact h1.elim⟩
/-- a new mutable list -/
theorem EndE.newM {σ : L2.St} {H : Hp} {bn : Ban} {ads : Ads} {Q : VK} {M : Store} {ps : List PV} {vs : List V} {p : Addr} (h : EndE Z W σ H bn ads Q (.ok (.loc M.length) (M ++ [.lst ps]))) (st : StoR Z H bn ads M) (r : RpL Z H bn ads ps vs) (hp : H p = none) : Q (.ref p) (upd H p (.lst vs)) :=
  h _ (ads ++ [some p]) (.ref p) (Aft.push hp) (st.push hp ⟨vs, upd_same, RpL.aft (Aft.push hp) _ _ r⟩) (rp_loc (by rw [← st.len]; exact app_eq))
theorem s_lst {m : Bool} (h : PA X es (tA Z W d)) : PE X (.List es pos) (tE Z W fun ρ M => (d ρ M).bind fun w M1 => if (bargs w).length ≤ mostLen then (if m then .ok (.loc M1.length) (M1 ++ [.lst (bargs w)]) else .ok (.lst (bargs w)) M1) else .bad) :=
  impE (pe_lst h) fun σ H Q ⟨bn, ads, M, ρ, st, sl, h⟩ => ⟨bn, ads, M, ρ, st, sl, h.bindA.mono fun xs H1 ⟨ads1, v, M1, f1, st1, r1, h1⟩ => by
    split at h1
    · rename_i hl
      refine ⟨most_le (by rw [← r1.length]; exact hl), fun p hp => ?_⟩
      cases m with
      | false => exact EndE.newLst h1 st1 r1 hp
      | true => exact EndE.newM h1 st1 r1 hp
    · exact h1.elim⟩

/-- two parts, then an operation by values -/
theorem two {σ : L2.St} {H : Hp} {Q : VK} {f : PV → PV → Store → R PV} {r : R2} (h : tE Z W (fun ρ M => (da ρ M).bind fun x M1 => (db ρ M1).bind fun y M2 => f x y M2) σ H Q)
    (hr : ∀ (H : Hp) (bn : Ban) (ads : Ads) (M : Store) (p q : PV) (x y : V), StoR Z H bn ads M → Rp Z H bn ads p x → Rp Z H bn ads q y → EndE Z W σ H bn ads Q (f p q M) → r x y H Q) : tOp r (tE Z W da) (tE Z W db) σ H Q := by
  obtain ⟨bn, ads, M, ρ, st, sl, h⟩ := h
  exact ⟨bn, ads, M, ρ, st, sl, h.bind.mono fun x H1 ⟨ads1, v, M1, f1, st1, r1, h1⟩ =>
    ⟨bn, ads1, M1, ρ, st1, sl.aft f1, h1.bind.mono fun y H2 ⟨ads2, w, M2, f2, st2, r2, h2⟩ => hr H2 bn ads2 M2 v w x y st2 (Rp.aft f2 _ _ r1) r2 h2⟩⟩
/-- the same as a test -/
theorem twoT {σ : L2.St} {H : Hp} {Q : Bool → Hp → Prop} {f : PV → PV → Store → R PV} {r : R2} (h : tT Z W (fun ρ M => (da ρ M).bind fun x M1 => (db ρ M1).bind fun y M2 => f x y M2) σ H Q)
    (hr : ∀ (H : Hp) (bn : Ban) (ads : Ads) (M : Store) (p q : PV) (x y : V) (Q' : VK), StoR Z H bn ads M → Rp Z H bn ads p x → Rp Z H bn ads q y → EndE Z W σ H bn ads Q' (f p q M) → r x y H Q') : tTest (tOp r (tE Z W da) (tE Z W db)) σ H Q := by
  obtain ⟨bn, ads, M, ρ, st, sl, h⟩ := h
  refine ⟨bn, ads, M, ρ, st, sl, h.bind.mono fun x H1 ⟨ads1, v, M1, f1, st1, r1, h1⟩ =>
    ⟨bn, ads1, M1, ρ, st1, sl.aft f1, h1.bind.mono fun y H2 ⟨ads2, w, M2, f2, st2, r2, h2⟩ => hr H2 bn ads2 M2 v w x y _ st2 (Rp.aft f2 _ _ r1) r2 ?_⟩⟩
  cases q : f v w M2 with
  | bad => rw [q] at h2; exact h2
  | exc y M => rw [q] at h2; exact h2
  | ok u M =>
    rw [q] at h2
    obtain ⟨c, e, h2⟩ := h2
    subst e
    exact fun H' ads' x af s r => ⟨c, r.bl, h2 H' ads' af s⟩
/-- one part, then an operation by its value -/
theorem one {σ : L2.St} {H : Hp} {Q : VK} {f : PV → Store → R PV} {r : V → Hp → VK → Prop} (h : tE Z W (fun ρ M => (da ρ M).bind fun x M1 => f x M1) σ H Q)
    (hr : ∀ (H : Hp) (bn : Ban) (ads : Ads) (M : Store) (p : PV) (x : V), StoR Z H bn ads M → Rp Z H bn ads p x → EndE Z W σ H bn ads Q (f p M) → r x H Q) : tUn r (tE Z W da) σ H Q := by
  obtain ⟨bn, ads, M, ρ, st, sl, h⟩ := h
  exact ⟨bn, ads, M, ρ, st, sl, h.bind.mono fun x H1 ⟨ads1, v, M1, f1, st1, r1, h1⟩ => hr H1 bn ads1 M1 v x st1 r1 h1⟩
def rAddA (K : PySem.W.Frag) : R2 := fun x y H Q => (((rI0 fun i j => .int (i + j)) x y H Q ∨ (∃ i j, x = .str i ∧ y = .str j ∧ i.length + j.length ≤ sizeLine ∧ Q (.str (i ++ j)) H)) ∨ rCatA K x y H Q) ∨ rCat x y H Q
theorem op_addA : OpR X (binaryOp .Add) (rAddA X.K) := ((op_add.or op_add_str).or op_catA).or op_cat
def rMulA (K : PySem.W.Frag) : R2 := fun x y H Q => (((rI CMul fun i j => .int (i * j)) x y H Q ∨ rRep x y H Q) ∨ rRepT K x y H Q) ∨ rRepT1 K x y H Q
theorem op_mulA : OpR X (binaryOp .Mult) (rMulA X.K) := ((op_mul.or op_rep).or op_repT).or op_repT1
theorem bop_some {o : BOp} {p q : PV} {σ : L2.St} {H : Hp} {bn : Ban} {ads : Ads} {Q : VK} {M : Store} (h : EndE Z W σ H bn ads Q (R.of (bopV o p q) M)) : ∃ v, bopV o p q = some v := by
  cases e : bopV o p q with
  | none => rw [e] at h; exact h.elim
  | some v => exact ⟨v, rfl⟩
theorem r_add {p q : PV} {x y : V} {σ : L2.St} {H : Hp} {bn : Ban} {ads : Ads} {Q : VK} {M : Store} (st : StoR Z H bn ads M) (r1 : Rp Z H bn ads p x) (r2 : Rp Z H bn ads q y) (h : EndE Z W σ H bn ads Q (R.of (bopV .add p q) M)) : rAddA Z.K x y H Q := by
  obtain ⟨v, ev⟩ := bop_some h
  rw [ev] at h
  cases p with
  | int i =>
    cases q with
    | int j => simp only [bopV] at ev; cases ev; rw [r1.int, r2.int]; exact .inl (.inl (.inl ⟨_, _, rfl, rfl, EndE.now h st rp_int⟩))
    | _ => simp [bopV] at ev
  | str i =>
    cases q with
    | str j =>
      simp only [bopV] at ev
      split at ev
      · rename_i hl; cases ev; rw [r1.str, r2.str]; exact .inl (.inl (.inr ⟨_, _, rfl, rfl, most_le hl, EndE.now h st rp_str⟩))
      · cases ev
    | _ => simp [bopV] at ev
  | tup xs =>
    cases q with
    | tup ys =>
      simp only [bopV] at ev
      split at ev
      · rename_i hl
        cases ev
        obtain ⟨a1, vs, e1, k1, l1⟩ := r1.tup
        obtain ⟨a2, ws, e2, k2, l2⟩ := r2.tup
        refine .inl (.inr ⟨a1, a2, vs, ws, e1, e2, k1, k2, most_le (by rw [← l1.length, ← l2.length]; exact hl), fun z => ?_, fun _ z => ?_, fun _ _ p hp => ?_⟩)
        · subst z
          have : xs = [] := List.eq_nil_of_length_eq_zero (by rw [l1.length]; rfl)
          subst this
          rw [List.nil_append] at h
          exact EndE.now h st (by rw [e2] at r2; exact r2)
        · subst z
          have : ys = [] := List.eq_nil_of_length_eq_zero (by rw [l2.length]; rfl)
          subst this
          rw [List.append_nil] at h
          exact EndE.now h st (by rw [e1] at r1; exact r1)
        · exact EndE.newTup h st (RpL.append l1 l2) hp
      · cases ev
    | _ => simp [bopV] at ev
  | lst xs =>
    cases q with
    | lst ys =>
      simp only [bopV] at ev
      split at ev
      · rename_i hl
        cases ev
        obtain ⟨a1, vs, e1, k1, l1⟩ := r1.lst
        obtain ⟨a2, ws, e2, k2, l2⟩ := r2.lst
        exact .inr ⟨a1, a2, vs, ws, e1, e2, k1, k2, most_le (by rw [← l1.length, ← l2.length]; exact hl), fun p hp => EndE.newLst h st (RpL.append l1 l2) hp⟩
      · cases ev
    | _ => simp [bopV] at ev
  | _ => simp [bopV] at ev
theorem RpL.rep {H : Hp} {bn : Ban} {ads : Ads} {ps : List PV} {vs : List V} (h : RpL Z H bn ads ps vs) : ∀ n : Nat, RpL Z H bn ads (List.replicate n ps).flatten (List.replicate n vs).flatten
  | 0 => RpL.nil
  | n + 1 => by rw [List.replicate_succ, List.replicate_succ, List.flatten_cons, List.flatten_cons]; exact RpL.append h (RpL.rep h n)
theorem r_mul {p q : PV} {x y : V} {σ : L2.St} {H : Hp} {bn : Ban} {ads : Ads} {Q : VK} {M : Store} (st : StoR Z H bn ads M) (r1 : Rp Z H bn ads p x) (r2 : Rp Z H bn ads q y) (h : EndE Z W σ H bn ads Q (R.of (bopV .mul p q) M)) : rMulA Z.K x y H Q := by
  obtain ⟨v, ev⟩ := bop_some h
  rw [ev] at h
  cases p with
  | int i =>
    cases q with
    | int j =>
      simp only [bopV] at ev
      split at ev
      · rename_i hs
        cases ev; rw [r1.int, r2.int]
        simp only [small, Bool.or_eq_true, Bool.and_eq_true, decide_eq_true_eq] at hs
        exact .inl (.inl (.inl ⟨_, _, rfl, rfl, hs, EndE.now h st rp_int⟩))
      · cases ev
    | _ => simp [bopV] at ev
  | lst xs =>
    cases q with
    | int j =>
      simp only [bopV] at ev
      split at ev
      · rename_i hs
        cases ev
        simp only [Bool.and_eq_true, decide_eq_true_eq] at hs
        obtain ⟨a1, vs, e1, k1, l1⟩ := r1.lst
        refine .inl (.inl (.inr ⟨a1, j, vs, e1, r2.int, k1, by omega, by omega, ?_, fun p hp => EndE.newLst h st (l1.rep _) hp⟩))
        rw [← l1.length, sizeLine_eq]
        have : xs.length * j.toNat ≤ 1000 * 1000 := Nat.mul_le_mul hs.1.2 (by omega)
        omega
      · cases ev
    | _ => simp [bopV] at ev
  | tup xs =>
    cases q with
    | int j =>
      simp only [bopV] at ev
      split at ev
      · rename_i hs
        cases ev
        simp only [Bool.and_eq_true, decide_eq_true_eq, Bool.not_eq_true', List.isEmpty_eq_false_iff] at hs
        obtain ⟨⟨⟨h1, h2⟩, h3⟩, h4⟩ := hs
        obtain ⟨a1, vs, e1, k1, l1⟩ := r1.tup
        have hne : vs ≠ [] := fun z => h4 (List.eq_nil_of_length_eq_zero (by rw [l1.length, z]; rfl))
        rcases Int.lt_or_eq_of_le h1 with c | c
        · exact .inl (.inr ⟨a1, j, vs, e1, r2.int, k1, hne, by omega, h2, by rw [← l1.length]; exact h3, fun p hp => EndE.newTup h st (l1.rep _) hp⟩)
        · subst c
          refine .inr ⟨a1, vs, e1, r2.int, k1, ?_⟩
          have e9 : (List.replicate (1 : Int).toNat xs).flatten = xs := by simp
          rw [e9] at h
          exact EndE.now h st (by rw [e1] at r1; exact r1)
      · cases ev
    | _ => simp [bopV] at ev
  | _ => simp [bopV] at ev
theorem s_bop (o : BOp) {op : Operator} (ho : (match o, op with | .add, .Add => true | .sub, .Sub => true | .mul, .Mult => true | .fdiv, .FloorDiv => true | .mod, .Mod => true | .pow, .Pow => true | _, _ => false) = true)
    (C : Cok Z k X W) (ha : PE X a (tE Z W da)) (hb : PE X b (tE Z W db)) : PE X (.BinOp a op b pos) (tE Z W fun ρ M => (da ρ M).bind fun x M1 => (db ρ M1).bind fun y M2 => R.of (bopV o x y) M2) := by
  have hI : ∀ {o : BOp} {p q : PV} {v : PV}, o ≠ .add → o ≠ .mul → bopV o p q = some v → ∃ i j n, p = .int i ∧ q = .int j ∧ v = .int n := by
    intro o p q v h1 h2 ev
    cases o <;> first | contradiction | skip
    all_goals
      cases p with
      | int i =>
        cases q with
        | int j =>
          simp only [bopV] at ev
          first
            | (cases ev; exact ⟨_, _, _, rfl, rfl, rfl⟩)
            | (split at ev
               · cases ev; exact ⟨_, _, _, rfl, rfl, rfl⟩
               · cases ev)
        | _ => simp [bopV] at ev
      | _ => simp [bopV] at ev
  cases o with
  | add => cases op <;> simp at ho; exact impE (pe_op op_addA ha hb) fun σ H Q h => two h fun H bn ads M p q x y st r1 r2 h => by rw [C.K]; exact r_add st r1 r2 h
  | mul => cases op <;> simp at ho; exact impE (pe_op op_mulA ha hb) fun σ H Q h => two h fun H bn ads M p q x y st r1 r2 h => by rw [C.K]; exact r_mul st r1 r2 h
  | sub =>
    cases op <;> simp at ho
    exact impE (pe_op op_sub ha hb) fun σ H Q h => two h fun H bn ads M p q x y st r1 r2 h => by
      obtain ⟨v, ev⟩ := bop_some h
      obtain ⟨i, j, n, rfl, rfl, rfl⟩ := hI (by decide) (by decide) ev
      rw [ev] at h
      simp only [bopV] at ev; cases ev
      rw [r1.int, r2.int]
      exact ⟨_, _, rfl, rfl, EndE.now h st rp_int⟩
  | fdiv =>
    cases op <;> simp at ho
    exact impE (pe_op op_fdivW ha hb) fun σ H Q h => two h fun H bn ads M p q x y st r1 r2 h => by
      obtain ⟨v, ev⟩ := bop_some h
      obtain ⟨i, j, n, rfl, rfl, rfl⟩ := hI (by decide) (by decide) ev
      rw [ev] at h
      simp only [bopV] at ev
      split at ev
      · rename_i hs
        cases ev
        simp only [Bool.and_eq_true, decide_eq_true_eq] at hs
        rw [r1.int, r2.int]
        exact ⟨_, _, rfl, rfl, hs, EndE.now h st rp_int⟩
      · cases ev
  | mod =>
    cases op <;> simp at ho
    exact impE (pe_op op_mod ha hb) fun σ H Q h => two h fun H bn ads M p q x y st r1 r2 h => by
      obtain ⟨v, ev⟩ := bop_some h
      obtain ⟨i, j, n, rfl, rfl, rfl⟩ := hI (by decide) (by decide) ev
      rw [ev] at h
      simp only [bopV] at ev
      split at ev
      · rename_i hs
        cases ev
        rw [r1.int, r2.int]
        exact ⟨_, _, rfl, rfl, hs, EndE.now h st rp_int⟩
      · cases ev
  | pow =>
    cases op <;> simp at ho
    exact impE (pe_op op_pow ha hb) fun σ H Q h => two h fun H bn ads M p q x y st r1 r2 h => by
      obtain ⟨v, ev⟩ := bop_some h
      obtain ⟨i, j, n, rfl, rfl, rfl⟩ := hI (by decide) (by decide) ev
      rw [ev] at h
      simp only [bopV] at ev
      split at ev
      · rename_i hs
        cases ev
        simp only [Bool.and_eq_true, decide_eq_true_eq] at hs
        rw [r1.int, r2.int]
        exact ⟨_, _, rfl, rfl, ⟨hs.1.1, by omega, by omega⟩, EndE.now h st rp_int⟩
      · cases ev
theorem s_neg (ha : PE X a (tE Z W da)) : PE X (.UnaryOp .USub a pos) (tE Z W fun ρ M => (da ρ M).bind fun x M1 => match x with
    | .int i => .ok (.int (-i)) M1
    | _ => .bad) :=
  impE (pe_un un_neg ha) fun σ H Q h => one h fun H bn ads M p x st r1 h => by
    cases p with
    | int i => rw [r1.int]; exact ⟨_, rfl, EndE.now h st rp_int⟩
    | _ => exact h.elim
end
end Zk
-- Zk8
set_option maxHeartbeats 4000000
namespace Zk
open PySem PySem.Spec L2

section
variable {Z : Wd} {W : WX} {X : Cx} {k : Nat} {e a b c : Expr} {es : List Expr} {d da db dc : Sl → Store → R PV} {pos : Pos}

def cop : COp → CmpOp
  | .eq => .Eq
  | .ne => .NotEq
  | .lt => .Lt
  | .le => .LtE
  | .gt => .Gt
  | .ge => .GtE
  | .inn => .In
  | .notin => .NotIn
def rSgn (f : Bool → Bool) : R2 := fun x y H Q => ∃ (c : Nat) (z : Str), x = .str ⟨#[c]⟩ ∧ y = .str z ∧ Q (.bl (f (decide (c ∈ z.cps.toList)))) H
def rInA (P : Program) (w : World) (K : PySem.W.Frag) : R2 := fun x y H Q => (((rIn K false x y H Q ∨ rInD K x y H Q) ∨ rInN P w K id x y H Q) ∨ rInK id x y H Q) ∨ rSgn id x y H Q ∨ rInO P w K id x y H Q
def rNotInA (P : Program) (w : World) (K : PySem.W.Frag) : R2 := fun x y H Q => (((rIn K true x y H Q ∨ rNotInD K x y H Q) ∨ rInN P w K (!·) x y H Q) ∨ rInK (!·) x y H Q) ∨ rSgn (!·) x y H Q ∨ rInO P w K (!·) x y H Q
theorem units65 {A : Around} {n : Nat} (h : Room n A) : A.units + 65 < cLine := by have := h.un; omega
theorem op_inA {n : Nat} (hr : Room n X.A) : OpR X (compareOp .In) (rInA X.prog X.w X.K) := (((op_in_seq.or (op_inD (units65 hr))).or (op_inN hr)).or (op_inK hr)).or (op_in_sign.or (op_inO hr))
theorem op_notInA {n : Nat} (hr : Room n X.A) : OpR X (compareOp .NotIn) (rNotInA X.prog X.w X.K) := (((op_notIn_seq.or (op_notInD (units65 hr))).or (op_notInN hr)).or (op_notInK hr)).or (op_notIn_sign.or (op_notInO hr))
def rCmp (P : Program) (w : World) (K : PySem.W.Frag) : COp → R2
  | .eq => rEqD K
  | .ne => rNeD K
  | .lt => rI0 fun i j => .bl (decide (i < j))
  | .le => rI0 fun i j => .bl (decide (i ≤ j))
  | .gt => rI0 fun i j => .bl (decide (j < i))
  | .ge => rI0 fun i j => .bl (decide (j ≤ i))
  | .inn => rInA P w K
  | .notin => rNotInA P w K
theorem op_cmp {n : Nat} (hr : Room n X.A) (o : COp) : OpR X (compareOp (cop o)) (rCmp X.prog X.w X.K o) := by
  cases o with
  | eq => exact op_eqD hr.units
  | ne => exact op_neD hr.units
  | lt => exact op_lt
  | le => exact op_le
  | gt => exact op_gt
  | ge => exact op_ge
  | inn => exact op_inA hr
  | notin => exact op_notInA hr
section
variable {p q : PV} {x y : V} {σ : L2.St} {H : Hp} {bn : Ban} {ads : Ads} {Q : VK} {M : Store}
theorem ofB_some {o : Option Bool} (h : EndE Z W σ H bn ads Q (R.ofB o M)) : ∃ v, o = some v := by
  cases e : o with
  | none => rw [e] at h; exact h.elim
  | some v => exact ⟨v, rfl⟩
theorem nowB {o : Option Bool} {v : Bool} (h : EndE Z W σ H bn ads Q (R.ofB o M)) (e : o = some v) (st : StoR Z H bn ads M) : Q (.bl v) H := by
  subst e; exact EndE.now h st rp_bl
/-- the cases of 'in' -/
theorem r_in (st : StoR Z H bn ads M) (r1 : Rp Z H bn ads p x) (r2 : Rp Z H bn ads q y) {v : Bool} (ev : inV p q M = some v) :
    (∃ pp xs, y = .ref pp ∧ (SqL Z.K H pp xs ∨ SqT Z.K H pp xs) ∧ flatV x = true ∧ xs.all flatV = true ∧ L2.inV x xs = v) ∨
    (∃ d ds, Dp Z.K H x d ∧ Dp Z.K H y (.list ds) ∧ SeqAt.shaped d = true ∧ SeqAt.shaped (.list ds) = true ∧ (ds.any fun z => PyData.eqv z d) = v) ∨
    (∃ (ka d : Addr) (xs : List (NestedKey × Addr × Value)) (k : NestedKey), x = .ref ka ∧ y = .ref d ∧ IsDN H Z.P Z.w d xs ∧ KsOk Z.K H xs ∧ NkH Z.K H k (.ref ka) ∧ k.depth ≤ 8 ∧ (atKey xs k).isSome = v) ∨
    (∃ a o, y = .ref a ∧ DGet H a x o ∧ o.isSome = v) ∨
    (∃ (c : Nat) (z : Str), x = .str ⟨#[c]⟩ ∧ y = .str z ∧ decide (c ∈ z.cps.toList) = v) ∨
    (∃ (d : Addr) (xs : List (NestedKey × Addr × Value)), x = .non ∧ y = .ref d ∧ IsDN H Z.P Z.w d xs ∧ KsOk Z.K H xs ∧ (∀ x ∈ xs, ∃ ks, x.1 = .tup ks) ∧ false = v) := by
  have tups : ∀ {ks : List PV} {xs : List (NestedKey × Addr × Value)}, ks.all (keyOk true) = true → xs.map (·.1) = nkL ks → ∀ x ∈ xs, ∃ ks, x.1 = .tup ks := by
    intro ks xs h1 h2 x hx
    have h3 : x.1 ∈ nkL ks := by rw [← h2]; exact List.mem_map.mpr ⟨x, hx, rfl⟩
    clear h2 hx
    induction ks with
    | nil => simp [nkL] at h3
    | cons p ps ih =>
      simp only [List.all_cons, Bool.and_eq_true] at h1
      simp only [nkL, List.mem_cons] at h3
      rcases h3 with h3 | h3
      · obtain ⟨ys, e, _⟩ := keyOk_tup h1.1
        rw [h3, e]; exact ⟨nkL ys, by simp only [nk]⟩
      · exact ih h1.2 h3
  have nonIn : ∀ {t : Bool} {w : Bool}, noneIn t p = some w → t = true ∧ p = .non ∧ w = false := by
    intro t w h
    cases t with
    | false => simp [noneIn] at h
    | true =>
      cases p with
      | non => simp [noneIn] at h; exact ⟨rfl, rfl, h⟩
      | _ => simp [noneIn] at h
  have deep : ∀ {ys : List PV} {aa : Addr} {vs : List V}, y = .ref aa → H aa = some (.lst vs) → RpL Z H bn ads ys vs → (shp p && shp (.lst ys)) = true → (ys.any fun z => eqB z p) = v →
      ∃ d ds, Dp Z.K H x d ∧ Dp Z.K H y (.list ds) ∧ SeqAt.shaped d = true ∧ SeqAt.shaped (.list ds) = true ∧ (ds.any fun z => PyData.eqv z d) = v := by
    intro ys aa vs e1 e2 e3 hs hv
    simp only [Bool.and_eq_true] at hs
    have s1 := hs.1
    have s2 := hs.2
    simp only [shp, okD, Bool.and_eq_true] at s1 s2
    refine ⟨toD p, toDL ys, Rp.dp p x r1 s1.1, ?_, shaped_toD hs.1, ?_, by rw [any_toDL p s1.1 ys s2.1]; exact hv⟩
    · rw [e1]; exact .lst (.inl (.inl e2)) (RpL.dp ys vs e3 s2.1)
    · have := shaped_toD hs.2; simpa only [toD] using this
  cases q with
  | tup ys =>
    simp only [inV] at ev
    split at ev
    · rename_i hf
      cases ev
      simp only [Bool.and_eq_true] at hf
      obtain ⟨a1, vs, e1, k1, l1⟩ := r2.tup
      exact .inl ⟨a1, vs, e1, .inr k1, r1.flat1 hf.1, l1.flat hf.2, RpL.inV r1 hf.1 l1 hf.2⟩
    · cases ev
  | lst ys =>
    simp only [inV] at ev
    split at ev
    · rename_i hf
      obtain ⟨a1, vs, e1, k1, l1⟩ := r2.lst
      exact .inr (.inl (deep e1 k1 l1 hf (Option.some.inj ev)))
    · cases ev
  | dct t ks ws =>
    simp only [inV] at ev
    split at ev
    · rename_i hf
      cases ev
      cases t with
      | true =>
        simp only [Rp] at r2
        obtain ⟨a1, xs, vs, e1, _, k1, ko, n1, l1, l2, l3⟩ := r2
        have d : DctN Z H bn ads xs ks ws := ⟨ko, n1, l1, vs, l2, l3⟩
        obtain ⟨ka, ex, n2, n3⟩ := key_nkh r1 hf
        exact .inr (.inr (.inl ⟨ka, a1, xs, nk p, ex, e1, k1, d.ks, n2, n3, d.isSome hf⟩))
      | false =>
        simp only [Rp] at r2
        obtain ⟨a1, kvs, e1, _, k1, ek, l2⟩ := r2
        obtain ⟨y', rfl⟩ := keyP hf
        subst ek
        obtain ⟨g1, g2⟩ := dget_K y' l2
        refine .inr (.inr (.inr (.inl ⟨a1, valV kvs y', e1, by rw [rp_kP r1]; exact DGet.k k1, ?_⟩)))
        cases e : dget (kP y') (kvs.map fun p => kP p.1) ws with
        | none => rw [g2 e]; rfl
        | some w => obtain ⟨v, q, _⟩ := g1 w e; rw [q]; rfl
    · obtain ⟨rfl, rfl, rfl⟩ := nonIn ev
      simp only [Rp] at r2
      obtain ⟨a1, xs, vs, e1, _, k1, ko, n1, l1, l2, l3⟩ := r2
      have d : DctN Z H bn ads xs ks ws := ⟨ko, n1, l1, vs, l2, l3⟩
      exact .inr (.inr (.inr (.inr (.inr ⟨a1, xs, r1.non, e1, k1, d.ks, tups ko n1, rfl⟩))))
  | str z =>
    simp only [inV] at ev
    split at ev
    · rename_i c
      cases ev
      refine .inr (.inr (.inr (.inr (.inl ⟨c, z, r1.str, r2.str, ?_⟩))))
      induction z.cps.toList with
      | nil => rfl
      | cons d ds ih =>
        rw [List.any_cons, ← ih]
        by_cases e : d = c
        · subst e; simp
        · have : c ≠ d := fun z => e z.symm
          simp [e, this]
    · cases ev
  | loc n =>
    simp only [inV] at ev
    split at ev
    · rename_i ys hm
      split at ev
      · rename_i hf
        obtain ⟨a1, e1, _, vs, k1, l1⟩ := st.obj r2 hm (by intro z; cases z)
        exact .inr (.inl (deep e1 k1 l1 hf (Option.some.inj ev)))
      · cases ev
    · rename_i t ks ws hm
      split at ev
      · rename_i hf
        cases ev
        cases t with
        | true =>
          obtain ⟨a1, e1, _, xs, vs, k1, ko, n1, l1, l2, l3⟩ := st.obj r2 hm (by intro z; cases z)
          have d : DctN Z H bn ads xs ks ws := ⟨ko, n1, l1, vs, l2, l3⟩
          obtain ⟨ka, ex, n2, n3⟩ := key_nkh r1 hf
          exact .inr (.inr (.inl ⟨ka, a1, xs, nk p, ex, e1, k1, d.ks, n2, n3, d.isSome hf⟩))
        | false =>
          obtain ⟨a1, e1, _, kvs, k1, ek, l2⟩ := st.obj r2 hm (by intro z; cases z)
          obtain ⟨y', rfl⟩ := keyP hf
          subst ek
          obtain ⟨g1, g2⟩ := dget_K y' l2
          refine .inr (.inr (.inr (.inl ⟨a1, valV kvs y', e1, by rw [rp_kP r1]; exact DGet.k k1, ?_⟩)))
          cases e : dget (kP y') (kvs.map fun p => kP p.1) ws with
          | none => rw [g2 e]; rfl
          | some w => obtain ⟨v, q, _⟩ := g1 w e; rw [q]; rfl
      · obtain ⟨rfl, rfl, rfl⟩ := nonIn ev
        obtain ⟨a1, e1, _, xs, vs, k1, ko, n1, l1, l2, l3⟩ := st.obj r2 hm (by intro z; cases z)
        have d : DctN Z H bn ads xs ks ws := ⟨ko, n1, l1, vs, l2, l3⟩
        exact .inr (.inr (.inr (.inr (.inr ⟨a1, xs, r1.non, e1, k1, d.ks, tups ko n1, rfl⟩))))
    · cases ev
  | _ => simp [inV] at ev
theorem r_cmp (o : COp) (st : StoR Z H bn ads M) (r1 : Rp Z H bn ads p x) (r2 : Rp Z H bn ads q y) (h : EndE Z W σ H bn ads Q (R.ofB (cmpV M o p q) M)) : rCmp Z.P Z.w Z.K o x y H Q := by
  obtain ⟨v, ev⟩ := ofB_some h
  have now := nowB h ev st
  have eqs : ∀ {u : Bool}, (shp (thaw p M) && shp (thaw q M)) = true → eqB (thaw p M) (thaw q M) = u → ∃ d e, Dp Z.K H x d ∧ Dp Z.K H y e ∧ SeqAt.shaped d = true ∧ SeqAt.shaped e = true ∧ PyData.eqv d e = u := by
    intro u hs hu
    simp only [Bool.and_eq_true] at hs
    have s1 := hs.1
    have s2 := hs.2
    simp only [shp, Bool.and_eq_true] at s1 s2
    exact ⟨toD (thaw p M), toD (thaw q M), r1.dpT st s1.1, r2.dpT st s2.1, shaped_toD hs.1, shaped_toD hs.2, by rw [eqv_toD _ _ s1.1 s2.1]; exact hu⟩
  have ii : ∀ {o : COp} {v : Bool}, (o = .lt ∨ o = .le ∨ o = .gt ∨ o = .ge) → cmpV M o p q = some v → ∃ i j, p = .int i ∧ q = .int j := by
    intro o v ho ev
    rcases ho with rfl | rfl | rfl | rfl
    all_goals
      cases p with
      | int i =>
        cases q with
        | int j => exact ⟨i, j, rfl, rfl⟩
        | _ => simp [cmpV] at ev
      | _ => simp [cmpV] at ev
  cases o with
  | eq =>
    simp only [cmpV] at ev
    split at ev
    · rename_i hs
      cases ev
      obtain ⟨d, e, h1, h2, h3, h4, h5⟩ := eqs hs rfl
      exact ⟨d, e, h1, h2, h3, h4, by rw [h5]; exact now⟩
    · cases ev
  | ne =>
    simp only [cmpV] at ev
    split at ev
    · rename_i hs
      cases ev
      obtain ⟨d, e, h1, h2, h3, h4, h5⟩ := eqs hs rfl
      exact ⟨d, e, h1, h2, h3, h4, by rw [h5]; exact now⟩
    · cases ev
  | lt => obtain ⟨i, j, rfl, rfl⟩ := ii (.inl rfl) ev; simp only [cmpV] at ev; cases ev; rw [r1.int, r2.int]; exact ⟨_, _, rfl, rfl, now⟩
  | le => obtain ⟨i, j, rfl, rfl⟩ := ii (.inr (.inl rfl)) ev; simp only [cmpV] at ev; cases ev; rw [r1.int, r2.int]; exact ⟨_, _, rfl, rfl, now⟩
  | gt => obtain ⟨i, j, rfl, rfl⟩ := ii (.inr (.inr (.inl rfl))) ev; simp only [cmpV] at ev; cases ev; rw [r1.int, r2.int]; exact ⟨_, _, rfl, rfl, now⟩
  | ge => obtain ⟨i, j, rfl, rfl⟩ := ii (.inr (.inr (.inr rfl))) ev; simp only [cmpV] at ev; cases ev; rw [r1.int, r2.int]; exact ⟨_, _, rfl, rfl, now⟩
  | inn =>
    rcases r_in st r1 r2 (show inV p q M = some v from ev) with ⟨pp, xs, e1, e2, e3, e4, e5⟩ | ⟨d, ds, e1, e2, e3, e4, e5⟩ | ⟨ka, d, xs, kk, e1, e2, e3, e4, e5, e6, e7⟩ | ⟨a, o, e1, e2, e3⟩ | ⟨c, z, e1, e2, e3⟩ | ⟨d, xs, e1, e2, e3, e4, e5, e6⟩
    · exact .inl (.inl (.inl (.inl ⟨pp, xs, e1, e2, e3, e4, by rw [if_neg (by decide), e5]; exact now⟩)))
    · exact .inl (.inl (.inl (.inr ⟨d, ds, e1, e2, e3, e4, by rw [e5]; exact now⟩)))
    · exact .inl (.inl (.inr ⟨ka, d, xs, kk, e1, e2, e3, e4, e5, e6, by rw [e7]; exact now⟩))
    · exact .inl (.inr ⟨a, o, e1, e2, by rw [e3]; exact now⟩)
    · exact .inr (.inl ⟨c, z, e1, e2, by rw [e3]; exact now⟩)
    · exact .inr (.inr ⟨d, xs, e1, e2, e3, e4, e5, by rw [e6]; exact now⟩)
  | notin =>
    simp only [cmpV] at ev
    obtain ⟨v', ev', rfl⟩ := Option.map_eq_some_iff.mp ev
    rcases r_in st r1 r2 ev' with ⟨pp, xs, e1, e2, e3, e4, e5⟩ | ⟨d, ds, e1, e2, e3, e4, e5⟩ | ⟨ka, d, xs, kk, e1, e2, e3, e4, e5, e6, e7⟩ | ⟨a, o, e1, e2, e3⟩ | ⟨c, z, e1, e2, e3⟩ | ⟨d, xs, e1, e2, e3, e4, e5, e6⟩
    · exact .inl (.inl (.inl (.inl ⟨pp, xs, e1, e2, e3, e4, by rw [if_pos rfl, e5]; exact now⟩)))
    · exact .inl (.inl (.inl (.inr ⟨d, ds, e1, e2, e3, e4, by rw [e5]; exact now⟩)))
    · exact .inl (.inl (.inr ⟨ka, d, xs, kk, e1, e2, e3, e4, e5, e6, by rw [e7]; exact now⟩))
    · exact .inl (.inr ⟨a, o, e1, e2, by rw [e3]; exact now⟩)
    · exact .inr (.inl ⟨c, z, e1, e2, by rw [e3]; exact now⟩)
    · exact .inr (.inr ⟨d, xs, e1, e2, e3, e4, e5, by rw [e6]; exact now⟩)
end
theorem s_cmp (o : COp) (C : Cok Z k X W) (hm : behindInMarks (cop o) b = false) (ha : PE X a (tE Z W da)) (hb : PE X b (tE Z W db)) :
    PE X (.Compare a [cop o] [b] pos) (tE Z W fun ρ M => (da ρ M).bind fun x M1 => (db ρ M1).bind fun y M2 => R.ofB (cmpV M2 o x y) M2) :=
  impE (pe_cmpR (op_cmp C.room o) ha hb hm) fun σ H Q h => two h fun H bn ads M p q x y st r1 r2 h => by rw [C.prog, C.w, C.K]; exact r_cmp o st r1 r2 h
theorem t_cmp (o : COp) (C : Cok Z k X W) (hm : behindInMarks (cop o) b = false) (ha : PE X a (tE Z W da)) (hb : PE X b (tE Z W db)) :
    PT X (.Compare a [cop o] [b] pos) (tT Z W fun ρ M => (da ρ M).bind fun x M1 => (db ρ M1).bind fun y M2 => R.ofB (cmpV M2 o x y) M2) :=
  impT (pt_cmpR (op_cmp C.room o) ha hb hm) fun σ H Q h => twoT h fun H bn ads M p q x y Q' st r1 r2 h => by rw [C.prog, C.w, C.K]; exact r_cmp o st r1 r2 h
end
end Zk
-- Zk9
set_option maxHeartbeats 4000000
namespace Zk
open PySem PySem.Spec L2

section
variable {Z : Wd} {W : WX} {X : Cx} {k : Nat} {e a b c : Expr} {es : List Expr} {d da db dc : Sl → Store → R PV} {pos : Pos}

def chainR (o o' : COp) (da db dc : Sl → Store → R PV) : Sl → Store → R PV := fun ρ M => (da ρ M).bind fun x M1 => (db ρ M1).bind fun y M2 => match cmpV M2 o x y with
    | some true => (dc ρ M2).bind fun z M3 => R.ofB (cmpV M3 o' y z) M3
    | some false => .ok (.bl false) M2
    | none => .bad
theorem chain_key {o o' : COp} {σ : L2.St} {H : Hp} {Q : VK} (h : tE Z W (chainR o o' da db dc) σ H Q) : tChain (rCmp Z.P Z.w Z.K o) (rCmp Z.P Z.w Z.K o') (tE Z W da) (tE Z W db) (tE Z W dc) σ H Q := by
  obtain ⟨bn, ads, M, ρ, st, sl, h⟩ := h
  refine ⟨bn, ads, M, ρ, st, sl, h.bind.mono fun x H1 ⟨ads1, v, M1, f1, st1, r1, h1⟩ =>
    ⟨bn, ads1, M1, ρ, st1, sl.aft f1, h1.bind.mono fun y H2 ⟨ads2, w, M2, f2, st2, r2, h2⟩ => ?_⟩⟩
  have key : ∀ u : Bool, cmpV M2 o v w = some u → (EndE Z W σ H2 bn ads2 (fun z H3 => ∃ k, z = .bl k ∧ (if k = true then tE Z W dc σ H3 fun w' H4 => rCmp Z.P Z.w Z.K o' y w' H4 Q else Q (.bl false) H3)) (R.ofB (cmpV M2 o v w) M2)) → rCmp Z.P Z.w Z.K o x y H2 fun z H3 => ∃ k, z = .bl k ∧
    (if k = true then tE Z W dc σ H3 fun w' H4 => rCmp Z.P Z.w Z.K o' y w' H4 Q else Q (.bl false) H3) := fun u e q => r_cmp o st2 (Rp.aft f2 _ _ r1) r2 q
  cases e : cmpV M2 o v w with
  | none => simp only [e] at h2; exact h2.elim
  | some u =>
    refine key u e ?_
    rw [e]
    intro H3 ads3 z f3 st3 r3
    refine ⟨u, r3.bl, ?_⟩
    cases u with
    | false =>
      simp only [e] at h2
      rw [if_neg (by decide)]
      exact h2 H3 ads3 (.bl false) f3 st3 rp_bl
    | true =>
      simp only [e] at h2
      rw [if_pos rfl]
      exact ⟨bn, ads3, M2, ρ, st3, (sl.aft f1).aft (f2.trans f3), (EndE.aft f3 h2).bind.mono fun w' H4 ⟨ads4, v', M4, f4, st4, r4, h4⟩ => r_cmp o' st4 (Rp.aft (f3.trans f4) _ _ r2) r4 h4⟩
theorem toT {f : Sl → Store → R PV} {t : TE} {σ : L2.St} {H : Hp} {Q : Bool → Hp → Prop} (h : tT Z W f σ H Q) (i : ∀ Q' : VK, tE Z W f σ H Q' → t σ H Q') : tTest t σ H Q := by
  obtain ⟨bn, ads, M, ρ, st, sl, h⟩ := h
  refine i _ ⟨bn, ads, M, ρ, st, sl, ?_⟩
  cases q : f ρ M with
  | bad => rw [q] at h; exact h
  | exc y M => rw [q] at h; exact h
  | ok u M =>
    rw [q] at h
    obtain ⟨c, e, h2⟩ := h
    subst e
    exact fun H' ads' x af s r => ⟨c, r.bl, h2 H' ads' af s⟩
theorem s_chain (o o' : COp) (C : Cok Z k X W) (hm : lastMarks [cop o, cop o'] [b, c] = false) (ha : PE X a (tE Z W da)) (hb : PE X b (tE Z W db)) (hc : PE X c (tE Z W dc)) :
    PE X (.Compare a [cop o, cop o'] [b, c] pos) (tE Z W (chainR o o' da db dc)) :=
  impE (pe_chain (op_cmp C.room o) (op_cmp C.room o') ha hb hc hm) fun σ H Q h => by rw [C.prog, C.w, C.K]; exact chain_key h
theorem t_chain (o o' : COp) (C : Cok Z k X W) (hm : lastMarks [cop o, cop o'] [b, c] = false) (ha : PE X a (tE Z W da)) (hb : PE X b (tE Z W db)) (hc : PE X c (tE Z W dc)) :
    PT X (.Compare a [cop o, cop o'] [b, c] pos) (tT Z W (chainR o o' da db dc)) :=
  impT (pt_chain (op_cmp C.room o) (op_cmp C.room o') ha hb hc hm) fun σ H Q h => by rw [C.prog, C.w, C.K]; exact toT h fun Q' h => chain_key h
theorem s_isN {j : Nat} {p' : Pos} (ha : PE X a (tE Z W da)) : PE X (.Compare a [.Is] [.Constant .none j p'] pos) (tE Z W fun ρ M => (da ρ M).bind fun x M1 => R.ofB (isNV x) M1) :=
  impE (pe_cmp (pc_isN ha)) fun σ H Q ⟨bn, ads, M, ρ, st, sl, h⟩ => ⟨bn, ads, M, ρ, st, sl, h.bind.mono fun x H1 ⟨ads1, v, M1, f1, st1, r1, h1⟩ => by
    obtain ⟨u, e⟩ := ofB_some h1
    rw [r1.isNon e]
    exact nowB h1 e st1⟩
theorem s_notN {j : Nat} {p' : Pos} (ha : PE X a (tE Z W da)) : PE X (.Compare a [.IsNot] [.Constant .none j p'] pos) (tE Z W fun ρ M => (da ρ M).bind fun x M1 => R.ofB ((isNV x).map (!·)) M1) :=
  impE (pe_cmp (pc_notN ha)) fun σ H Q ⟨bn, ads, M, ρ, st, sl, h⟩ => ⟨bn, ads, M, ρ, st, sl, h.bind.mono fun x H1 ⟨ads1, v, M1, f1, st1, r1, h1⟩ => by
    obtain ⟨u, e⟩ := ofB_some h1
    obtain ⟨u', e', rfl⟩ := Option.map_eq_some_iff.mp e
    rw [r1.isNon e']
    exact nowB h1 e st1⟩
theorem t_isN {j : Nat} {p' : Pos} (ha : PE X a (tE Z W da)) : PT X (.Compare a [.Is] [.Constant .none j p'] pos) (tT Z W fun ρ M => (da ρ M).bind fun x M1 => R.ofB (isNV x) M1) :=
  impT (pt_cmp (pc_isN ha)) fun σ H Q h => toT h fun Q' ⟨bn, ads, M, ρ, st, sl, h⟩ => ⟨bn, ads, M, ρ, st, sl, h.bind.mono fun x H1 ⟨ads1, v, M1, f1, st1, r1, h1⟩ => by
    obtain ⟨u, e⟩ := ofB_some h1
    rw [r1.isNon e]
    exact nowB h1 e st1⟩
theorem t_notN {j : Nat} {p' : Pos} (ha : PE X a (tE Z W da)) : PT X (.Compare a [.IsNot] [.Constant .none j p'] pos) (tT Z W fun ρ M => (da ρ M).bind fun x M1 => R.ofB ((isNV x).map (!·)) M1) :=
  impT (pt_cmp (pc_notN ha)) fun σ H Q h => toT h fun Q' ⟨bn, ads, M, ρ, st, sl, h⟩ => ⟨bn, ads, M, ρ, st, sl, h.bind.mono fun x H1 ⟨ads1, v, M1, f1, st1, r1, h1⟩ => by
    obtain ⟨u, e⟩ := ofB_some h1
    obtain ⟨u', e', rfl⟩ := Option.map_eq_some_iff.mp e
    rw [r1.isNon e']
    exact nowB h1 e st1⟩
def andR (da db : Sl → Store → R PV) : Sl → Store → R PV := fun ρ M => (da ρ M).bind fun x M1 => match x with
    | .bl true => db ρ M1
    | .bl false => .ok (.bl false) M1
    | _ => .bad
def orR (da db : Sl → Store → R PV) : Sl → Store → R PV := fun ρ M => (da ρ M).bind fun x M1 => match x with
    | .bl true => .ok (.bl true) M1
    | .bl false => db ρ M1
    | _ => .bad
def notR (da : Sl → Store → R PV) : Sl → Store → R PV := fun ρ M => (da ρ M).bind fun x M1 => match x with
    | .bl b => .ok (.bl (!b)) M1
    | _ => .bad
def ifR (dc da db : Sl → Store → R PV) : Sl → Store → R PV := fun ρ M => (dc ρ M).bind fun x M1 => match x with
    | .bl true => da ρ M1
    | .bl false => db ρ M1
    | _ => .bad
theorem s_and {rest : List Expr} (ha : PE X a (tE Z W da)) (hb : PE X (.BoolOp .And (b :: rest) pos) (tE Z W db)) : PE X (.BoolOp .And (a :: b :: rest) pos) (tE Z W (andR da db)) :=
  impE (pe_and ha hb) fun σ H Q ⟨bn, ads, M, ρ, st, sl, h⟩ => ⟨bn, ads, M, ρ, st, sl, h.bind.mono fun x H1 ⟨ads1, v, M1, f1, st1, r1, h1⟩ => by
    cases v with
    | bl c =>
      refine ⟨c, r1.bl, ?_⟩
      cases c with
      | false => rw [if_neg (by decide)]; exact EndE.now h1 st1 rp_bl
      | true => rw [if_pos rfl]; exact ⟨bn, ads1, M1, ρ, st1, sl.aft f1, h1⟩
    | _ => exact h1.elim⟩
theorem s_or {rest : List Expr} (ha : PE X a (tE Z W da)) (hb : PE X (.BoolOp .Or (b :: rest) pos) (tE Z W db)) : PE X (.BoolOp .Or (a :: b :: rest) pos) (tE Z W (orR da db)) :=
  impE (pe_or ha hb) fun σ H Q ⟨bn, ads, M, ρ, st, sl, h⟩ => ⟨bn, ads, M, ρ, st, sl, h.bind.mono fun x H1 ⟨ads1, v, M1, f1, st1, r1, h1⟩ => by
    cases v with
    | bl c =>
      refine ⟨c, r1.bl, ?_⟩
      cases c with
      | false => rw [if_neg (by decide)]; exact ⟨bn, ads1, M1, ρ, st1, sl.aft f1, h1⟩
      | true => rw [if_pos rfl]; exact EndE.now h1 st1 rp_bl
    | _ => exact h1.elim⟩
theorem s_not (ha : PE X a (tE Z W da)) : PE X (.UnaryOp .Not a pos) (tE Z W (notR da)) :=
  impE (pe_not ha) fun σ H Q ⟨bn, ads, M, ρ, st, sl, h⟩ => ⟨bn, ads, M, ρ, st, sl, h.bind.mono fun x H1 ⟨ads1, v, M1, f1, st1, r1, h1⟩ => by
    cases v with
    | bl c => exact ⟨c, r1.bl, EndE.now h1 st1 rp_bl⟩
    | _ => exact h1.elim⟩
theorem bad1 {da db : Sl → Store → R PV} {ρ : Sl} : ∀ (v : PV) (M : Store), (∀ c, v ≠ .bl c) → (match v with | .bl true => da ρ M | .bl false => db ρ M | _ => R.bad) = R.bad := by
  intro v M h
  cases v with
  | bl c => exact (h c rfl).elim
  | _ => rfl
theorem EndT.nowT {σ : L2.St} {H : Hp} {bn : Ban} {ads : Ads} {Q : Bool → Hp → Prop} {c : Bool} {M : Store} (h : EndT Z W σ H bn ads Q (.ok (.bl c) M)) (s : StoR Z H bn ads M) : Q c H := by
  obtain ⟨c', e, h⟩ := h
  cases e
  exact h H ads Aft.refl s
theorem w_and {rest : List Expr} (ha : PT X a (tT Z W da)) (hb : PW X (.BoolOp .And (b :: rest) pos) (tT Z W db)) : PW X (.BoolOp .And (a :: b :: rest) pos) (tT Z W (andR da db)) :=
  impW (pw_and ha hb) fun σ H Q ⟨bn, ads, M, ρ, st, sl, h⟩ => ⟨bn, ads, M, ρ, st, sl, (EndT.bindT (by intro v M h; cases v <;> first | rfl | exact (h _ rfl).elim) h).mono fun c H1 ⟨ads1, M1, f1, st1, h1⟩ => by
    cases c with
    | false => rw [if_neg (by decide)]; exact EndT.nowT h1 st1
    | true => rw [if_pos rfl]; exact ⟨bn, ads1, M1, ρ, st1, sl.aft f1, h1⟩⟩
theorem w_or {rest : List Expr} (ha : PT X a (tT Z W da)) (hb : PW X (.BoolOp .Or (b :: rest) pos) (tT Z W db)) : PW X (.BoolOp .Or (a :: b :: rest) pos) (tT Z W (orR da db)) :=
  impW (pw_or ha hb) fun σ H Q ⟨bn, ads, M, ρ, st, sl, h⟩ => ⟨bn, ads, M, ρ, st, sl, (EndT.bindT (by intro v M h; cases v <;> first | rfl | exact (h _ rfl).elim) h).mono fun c H1 ⟨ads1, M1, f1, st1, h1⟩ => by
    cases c with
    | false => rw [if_neg (by decide)]; exact ⟨bn, ads1, M1, ρ, st1, sl.aft f1, h1⟩
    | true => rw [if_pos rfl]; exact EndT.nowT h1 st1⟩
theorem t_not (ha : PT X a (tT Z W da)) : PT X (.UnaryOp .Not a pos) (tT Z W (notR da)) :=
  impT (pt_not ha) fun σ H Q ⟨bn, ads, M, ρ, st, sl, h⟩ => ⟨bn, ads, M, ρ, st, sl, (EndT.bindT (by intro v M h; cases v <;> first | rfl | exact (h _ rfl).elim) h).mono fun c H1 ⟨ads1, M1, f1, st1, h1⟩ => EndT.nowT h1 st1⟩
/-- a value as a test -/
theorem t_val (ha : PE X a (tE Z W da)) (he : ∀ whole, isTrue a X.env whole = (do let v ← whole; standAt a.pos; holding [v] (truthy v))) : PT X a (tT Z W da) :=
  impT (pt_val ha he) fun σ H Q h => toT h fun Q' h => h
theorem s_ife (hc : PT X c (tT Z W dc)) (ha : PE X a (tE Z W da)) (hb : PE X b (tE Z W db)) : PE X (.IfExp c a b pos) (tE Z W (ifR dc da db)) :=
  impE (pe_ifExp hc ha hb) fun σ H Q ⟨bn, ads, M, ρ, st, sl, h⟩ => ⟨bn, ads, M, ρ, st, sl, (EndE.bindT (by intro v M h; cases v <;> first | rfl | exact (h _ rfl).elim) h).mono fun c H1 ⟨ads1, M1, f1, st1, h1⟩ => by
    cases c with
    | false => rw [if_neg (by decide)]; exact ⟨bn, ads1, M1, ρ, st1, sl.aft f1, h1⟩
    | true => rw [if_pos rfl]; exact ⟨bn, ads1, M1, ρ, st1, sl.aft f1, h1⟩⟩
/-- what is known of the classes -/
def FldOk (Z : Wd) (T : Tabs) : Prop := ∀ c f, T.fld c f = true → Cls Z.K (Z.cA c) ∧ NoAttr Z.K (Z.cA c) f
theorem fld_at {H : Hp} {bn : Ban} {ads : Ads} {f : Str} : ∀ {fs : List (Str × V)} {ks : List Str} {ws : List PV} {p : PV}, fs.map (·.1) = ks → RpL Z H bn ads ws (fs.map (·.2)) → fldAt f ks ws = some p → ∃ v, fs.lookup f = some v ∧ Rp Z H bn ads p v
  | [], ks, ws, p, h1, h2, h3 => by subst h1; simp [fldAt] at h3
  | (n, v) :: fs, ks, ws, p, h1, h2, h3 => by
    subst h1
    cases ws with
    | nil => simp [fldAt] at h3
    | cons w ws =>
      obtain ⟨v', us, e, r1, r2⟩ := h2.cons_inv
      simp only [List.map_cons, List.cons.injEq] at e
      simp only [List.map_cons, fldAt] at h3
      by_cases c : f = n
      · rw [if_pos c] at h3
        cases h3
        subst c
        exact ⟨v, by simp [List.lookup], by rw [e.1]; exact r1⟩
      · rw [if_neg c] at h3
        obtain ⟨u, e1, e2⟩ := fld_at rfl (by rw [e.2]; exact r2) h3
        exact ⟨u, by simp [List.lookup, beq_eq_false_iff_ne.mpr c, e1], e2⟩
theorem s_attr {T : Tabs} {f : Str} (C : Cok Z k X W) (hT : FldOk Z T) (hb : attributeBase e f X.env (eval e X.env) = eval e X.env) (ha : PE X e (tE Z W da)) : PE X (.Attribute e f pos) (tE Z W fun ρ M => (da ρ M).bind fun x M1 => R.of (attrV T f x M1) M1) :=
  impE (pe_fld ha hb) fun σ H Q ⟨bn, ads, M, ρ, st, sl, h⟩ => ⟨bn, ads, M, ρ, st, sl, h.bind.mono fun x H1 ⟨ads1, v, M1, f1, st1, r1, h1⟩ => by
    rw [C.K]
    cases q : attrV T f v M1 with
    | none => rw [q] at h1; exact h1.elim
    | some p =>
      rw [q] at h1
      have fin : ∀ {a dx : Addr} {c : Nat} {fs : List (Str × V)} {ks : List Str} {ws : List PV}, x = .ref a → H1 a = some (.ins (Z.cA c) dx fs) → fs.map (·.1) = ks → RpL Z H1 bn ads1 ws (fs.map (·.2)) → (if T.fld c f then fldAt f ks ws else none) = some p →
          ∃ a C dx fs v, x = .ref a ∧ H1 a = some (.ins C dx fs) ∧ Cls Z.K C ∧ NoAttr Z.K C f ∧ fs.lookup f = some v ∧ Q v H1 := by
        intro a dx c fs ks ws e1 e2 e3 e4 e5
        split at e5
        · rename_i ht
          obtain ⟨g1, g2⟩ := hT c f ht
          obtain ⟨u, e6, e7⟩ := fld_at e3 e4 e5
          exact ⟨a, _, dx, fs, u, e1, e2, g1, g2, e6, EndE.now h1 st1 e7⟩
        · cases e5
      cases v with
      | obj c ks ws =>
        simp only [attrV] at q
        simp only [Rp] at r1
        obtain ⟨a, dx, fs, e1, _, e2, e3, e4⟩ := r1
        exact fin e1 e2 e3 e4 q
      | loc n =>
        simp only [attrV] at q
        split at q
        · rename_i c ks ws hm
          obtain ⟨a, e1, _, dx, fs, e2, e3, e4⟩ := st1.obj r1 hm (by intro z; cases z)
          exact fin e1 e2 e3 e4 q
        · cases q
      | _ => simp [attrV] at q⟩
def rIxA (P : Program) (w : World) (K : PySem.W.Frag) : R2 := fun x y H Q => ((rIxL K x y H Q ∨ rIxT K x y H Q) ∨ rIxN P w K x y H Q) ∨ rIxK x y H Q
theorem ix_A {n : Nat} (hr : Room n X.A) : IxR X (rIxA X.prog X.w X.K) := ((ix_list.or ix_tup).or (ix_N hr)).or (ix_K hr)
theorem ixN_eq (n : Nat) (i : Int) : Zk.ixN n i = L2.ixN n i := rfl
theorem atI_rp {H : Hp} {bn : Ban} {ads : Ads} {ps : List PV} {vs : List V} {i : Int} {p : PV} (h : RpL Z H bn ads ps vs) (e : Zk.atI ps i = some p) : ∃ v, L2.atI vs i = some v ∧ Rp Z H bn ads p v := by
  unfold Zk.atI at e
  unfold L2.atI
  rw [ixN_eq] at e
  rw [← h.length]
  cases q : L2.ixN ps.length i with
  | none => rw [q] at e; cases e
  | some j =>
    rw [q] at e
    obtain ⟨v, e1, r⟩ := h.get (i := j) e
    exact ⟨v, e1, r⟩
theorem s_sub (C : Cok Z k X W) (hs : PlainIx b) (ha : PE X a (tE Z W da)) (hb : PE X b (tE Z W db)) : PE X (.Subscript a b pos) (tE Z W fun ρ M => (da ρ M).bind fun x M1 => (db ρ M1).bind fun y M2 => R.of (subV x y M2) M2) :=
  impE (pe_ix (ix_A C.room) ha hb hs) fun σ H Q h => two h fun H bn ads M p q x y st r1 r2 h => by
    rw [C.prog, C.w, C.K]
    cases ev : subV p q M with
    | none => rw [ev] at h; exact h.elim
    | some v =>
      rw [ev] at h
      have dN : ∀ {a1 : Addr} {xs : List (NestedKey × Addr × Value)} {ks ws : List PV}, x = .ref a1 → IsDN H Z.P Z.w a1 xs → DctN Z H bn ads xs ks ws → (if keyOk true q then dget q ks ws else none) = some v → rIxN Z.P Z.w Z.K x y H Q := by
        intro a1 xs ks ws e1 e2 d e3
        split at e3
        · rename_i hk
          obtain ⟨ka, ex, n2, n3⟩ := key_nkh r2 hk
          obtain ⟨pp, u, g1, g2, g3⟩ := (DctN.get hk d).1 v e3
          exact ⟨ka, a1, xs, nk q, pp, u, e1, ex, e2, d.ks, n2, n3, g1, g2, EndE.now h st g3⟩
        · cases e3
      have dK : ∀ {a1 : Addr} {kvs : List (Key × V)} {ks ws : List PV}, x = .ref a1 → H a1 = some (.dK kvs) → ks = kvs.map (fun p => kP p.1) → RpL Z H bn ads ws (kvs.map (·.2)) → (if keyOk false q then dget q ks ws else none) = some v → rIxK x y H Q := by
        intro a1 kvs ks ws e1 e2 e3 e4 e5
        split at e5
        · rename_i hk
          obtain ⟨y', rfl⟩ := keyP hk
          subst e3
          obtain ⟨u, g1, g2⟩ := (dget_K y' e4).1 v e5
          refine ⟨a1, u, e1, ?_, EndE.now h st g2⟩
          rw [rp_kP r2, ← g1]
          exact DGet.k e2
        · cases e5
      cases p with
      | tup xs =>
        simp only [subV] at ev
        split at ev
        · obtain ⟨a1, vs, e1, k1, l1⟩ := r1.tup
          obtain ⟨u, e2, r3⟩ := atI_rp l1 ev
          exact .inl (.inl (.inr ⟨a1, vs, _, u, e1, r2.int, k1, e2, EndE.now h st r3⟩))
        · cases ev
      | lst xs =>
        simp only [subV] at ev
        split at ev
        · obtain ⟨a1, vs, e1, k1, l1⟩ := r1.lst
          obtain ⟨u, e2, r3⟩ := atI_rp l1 ev
          exact .inl (.inl (.inl ⟨a1, vs, _, u, e1, r2.int, .inl (.inl k1), e2, EndE.now h st r3⟩))
        · cases ev
      | rol xs =>
        simp only [subV] at ev
        split at ev
        · obtain ⟨a1, vs, e1, k1, l1⟩ := r1.rol
          obtain ⟨u, e2, r3⟩ := atI_rp l1 ev
          exact .inl (.inl (.inl ⟨a1, vs, _, u, e1, r2.int, k1, e2, EndE.now h st r3⟩))
        · cases ev
      | dct t ks ws =>
        simp only [subV] at ev
        cases t with
        | true =>
          simp only [Rp] at r1
          obtain ⟨a1, xs, vs, e1, _, k1, ko, n1, l1, l2, l3⟩ := r1
          exact .inl (.inr (dN e1 k1 ⟨ko, n1, l1, vs, l2, l3⟩ ev))
        | false =>
          simp only [Rp] at r1
          obtain ⟨a1, kvs, e1, _, k1, ek, l2⟩ := r1
          exact .inr (dK e1 k1 ek l2 ev)
      | loc n =>
        simp only [subV] at ev
        split at ev
        · rename_i xs hm
          obtain ⟨a1, e1, _, vs, k1, l1⟩ := st.obj r1 hm (by intro z; cases z)
          split at ev
          · obtain ⟨u, e2, r3⟩ := atI_rp l1 ev
            exact .inl (.inl (.inl ⟨a1, vs, _, u, e1, r2.int, .inl (.inl k1), e2, EndE.now h st r3⟩))
          · cases ev
        · rename_i t ks ws hm
          cases t with
          | true =>
            obtain ⟨a1, e1, _, xs, vs, k1, ko, n1, l1, l2, l3⟩ := st.obj r1 hm (by intro z; cases z)
            exact .inl (.inr (dN e1 k1 ⟨ko, n1, l1, vs, l2, l3⟩ ev))
          | false =>
            obtain ⟨a1, e1, _, kvs, k1, ek, l2⟩ := st.obj r1 hm (by intro z; cases z)
            exact .inr (dK e1 k1 ek l2 ev)
        · cases ev
      | _ => simp [subV] at ev
def rSlA' (K : PySem.W.Frag) : V → Option Int → Option Int → Hp → VK → Prop := fun x lo hi H Q => rSlA K x lo hi H Q ∨ rSlL K x lo hi H Q
theorem sl_A : SlR X (rSlA' X.K) := sl_tupA.or sl_list
theorem cut_rp {H : Hp} {bn : Ban} {ads : Ads} {ps : List PV} {vs : List V} (h : RpL Z H bn ads ps vs) (lo hi : Option Int) : RpL Z H bn ads (cut ps lo hi) (cutV vs lo hi) := by
  have e : ∀ n d o, Zk.sIx n d o = HT.sIx n d o := fun n d o => by cases o <;> rfl
  unfold cut cutV
  rw [e, e, ← h.length]
  exact RpL.take _ (RpL.drop _ h)
theorem cut_all {α : Type} {ps : List α} {lo hi : Option Int} (h : HT.sIx ps.length 0 lo = 0 ∧ HT.sIx ps.length ps.length hi = ps.length) : cut ps lo hi = ps := by
  have e : ∀ n d o, Zk.sIx n d o = HT.sIx n d o := fun n d o => by cases o <;> rfl
  unfold cut
  rw [e, e, h.1, h.2]
  simp
def EndO (Z : Wd) (W : WX) (ab : Bool) (σ : L2.St) (H : Hp) (b : Ban) (ads : Ads) (Q : Option Int → Hp → Prop) : R PV → Prop
  | .ok v M => ∃ o, partV ab v = some o ∧ ∀ H' ads', Aft H ads H' ads' → StoR Z H' b ads' M → Q o H'
  | .exc x M => ∀ H' ads' cls d, Aft H ads H' ads' → StoR Z H' b ads' M → XR Z H' b ads' x cls d → W cls d σ H'
  | .bad => False
def tO (Z : Wd) (W : WX) (ab : Bool) (d : Sl → Store → R PV) : TO := fun σ H Q => ∃ b ads M ρ, StoR Z H b ads M ∧ SlotR Z H b ads ρ σ ∧ EndO Z W ab σ H b ads Q (d ρ M)
theorem impO {oe : Option Expr} {t t' : TO} (h : PO X oe t) (i : ∀ σ H Q, t' σ H Q → t σ H Q) : PO X oe t' := ⟨fun pins s σ H Q I q => h.run pins s σ H Q I (i _ _ _ q)⟩
theorem o_none : PO X none (tO Z W true fun _ M => .ok (.tup []) M) := impO po_none fun σ H Q ⟨bn, ads, M, ρ, st, sl, o, e, h⟩ => by
  simp only [partV, if_pos] at e
  cases e
  exact h H ads Aft.refl st
theorem o_some (ha : PE X e (tE Z W da)) : PO X (some e) (tO Z W false da) := impO (po_some ha) fun σ H Q ⟨bn, ads, M, ρ, st, sl, h⟩ => by
  refine ⟨bn, ads, M, ρ, st, sl, ?_⟩
  cases q : da ρ M with
  | bad => rw [q] at h; exact h
  | exc y M => rw [q] at h; exact h
  | ok v M =>
    rw [q] at h
    obtain ⟨o, e, h⟩ := h
    intro H1 ads1 x f1 st1 r1
    cases v with
    | int i =>
      simp only [partV] at e
      cases e
      exact ⟨i, r1.int, h H1 ads1 f1 st1⟩
    | _ => simp [partV] at e
theorem EndE.bindO {σ : L2.St} {H : Hp} {bn : Ban} {ads : Ads} {Q : VK} {ab : Bool} {r : R PV} {f : Option Int → Store → R PV} (h : EndE Z W σ H bn ads Q (r.bind fun y M => match partV ab y with | none => .bad | some l => f l M)) :
    EndO Z W ab σ H bn ads (fun o H1 => ∃ ads1 M1, Aft H ads H1 ads1 ∧ StoR Z H1 bn ads1 M1 ∧ EndE Z W σ H1 bn ads1 Q (f o M1)) r := by
  cases r with
  | bad => exact h
  | exc x M => exact h
  | ok v M =>
    have h' : EndE Z W σ H bn ads Q (match partV ab v with | none => .bad | some l => f l M) := h
    cases q : partV ab v with
    | none => rw [q] at h'; exact h'.elim
    | some l =>
      rw [q] at h'
      exact ⟨l, q, fun H1 ads1 f1 st1 => ⟨ads1, M, f1, st1, EndE.aft f1 h'⟩⟩
theorem EndO.mono {ab : Bool} {σ : L2.St} {H : Hp} {bn : Ban} {ads : Ads} {Q Q' : Option Int → Hp → Prop} {r : R PV} (h : EndO Z W ab σ H bn ads Q r) (i : ∀ o H', Q o H' → Q' o H') : EndO Z W ab σ H bn ads Q' r := by
  cases r with
  | bad => exact h
  | exc x M => exact h
  | ok v M => obtain ⟨o, e, h⟩ := h; exact ⟨o, e, fun H1 a1 g s => i _ _ (h H1 a1 g s)⟩
theorem r_slc {p : PV} {x : V} {l h' : Option Int} {σ : L2.St} {H : Hp} {bn : Ban} {ads : Ads} {Q : VK} {M : Store} (st : StoR Z H bn ads M) (r1 : Rp Z H bn ads p x) (h : EndE Z W σ H bn ads Q (R.of (slcV p l h' M) M)) : rSlA' Z.K x l h' H Q := by
  have lists : ∀ {a1 : Addr} {vs : List V} {xs : List PV}, x = .ref a1 → SqL Z.K H a1 vs → RpL Z H bn ads xs vs → EndE Z W σ H bn ads Q (.ok (.lst (cut xs l h')) M) → rSlA' Z.K x l h' H Q := fun {a1 vs xs} e1 e2 e3 e4 =>
    .inr ⟨a1, vs, e1, e2, fun p hp => EndE.newLst e4 st (cut_rp e3 l h') hp⟩
  cases p with
  | tup xs =>
    simp only [slcV, thaw, R.of] at h
    obtain ⟨a1, vs, e1, k1, l1⟩ := r1.tup
    refine .inl ⟨a1, vs, e1, k1, fun z => ?_, fun _ p hp => EndE.newTup h st (cut_rp l1 l h') hp⟩
    rw [cut_all (by rw [l1.length]; exact z)] at h
    exact EndE.now h st (by rw [e1] at r1; exact r1)
  | lst xs =>
    simp only [slcV, thaw, R.of] at h
    obtain ⟨a1, vs, e1, k1, l1⟩ := r1.lst
    exact lists e1 (.inl (.inl k1)) l1 h
  | rol xs =>
    simp only [slcV, thaw, R.of] at h
    obtain ⟨a1, vs, e1, k1, l1⟩ := r1.rol
    exact lists e1 k1 l1 h
  | loc n =>
    simp only [slcV, thaw] at h
    cases q : (M[n]? : Option MO) with
    | none => rw [q] at h; exact h.elim
    | some mo =>
      rw [q] at h
      cases mo with
      | lst xs =>
        obtain ⟨a1, e1, _, vs, k1, l1⟩ := st.obj r1 q (by intro z; cases z)
        exact lists e1 (.inl (.inl k1)) l1 h
      | dct t ks ws => exact h.elim
      | ins c ks ws => exact h.elim
      | dead => exact h.elim
  | _ => exact h.elim
theorem s_slc {lo hi : Option Expr} {p2 : Pos} {b1 b2 : Bool} (C : Cok Z k X W) (ha : PE X a (tE Z W da)) (hl : PO X lo (tO Z W b1 db)) (hh : PO X hi (tO Z W b2 dc)) :
    PE X (.Subscript a (.Slice lo hi none p2) pos) (tE Z W fun ρ M => (da ρ M).bind fun x M1 => (db ρ M1).bind fun y M2 => match partV b1 y with
    | none => .bad
    | some l => (dc ρ M2).bind fun z M3 => match partV b2 z with
      | none => .bad
      | some h => R.of (slcV x l h M3) M3) :=
  impE (pe_slice sl_A ha hl hh) fun σ H Q ⟨bn, ads, M, ρ, st, sl, h⟩ => ⟨bn, ads, M, ρ, st, sl, h.bind.mono fun x H1 ⟨ads1, v, M1, f1, st1, r1, h1⟩ =>
    ⟨bn, ads1, M1, ρ, st1, sl.aft f1, (EndE.bindO h1).mono fun o H2 ⟨ads2, M2, f2, st2, h2⟩ =>
      ⟨bn, ads2, M2, ρ, st2, (sl.aft f1).aft f2, (EndE.bindO h2).mono fun o' H3 ⟨ads3, M3, f3, st3, h3⟩ => by rw [C.K]; exact r_slc st3 (Rp.aft (f2.trans f3) _ _ r1) h3⟩⟩⟩
theorem s_rev {n : Nat} {p1 p2 p3 : Pos} (C : Cok Z k X W) (ha : PE X e (tE Z W da)) : PE X (.Subscript e (.Slice none none (some (.UnaryOp .USub (.Constant (.int 1) n p1) p2)) p3) pos) (tE Z W fun ρ M => (da ρ M).bind fun x M1 => (match thaw x M1 with
    | .lst xs => .ok (.lst xs.reverse) M1
    | _ => .bad)) :=
  impE (pe_revL ha) fun σ H Q ⟨bn, ads, M, ρ, st, sl, h⟩ => ⟨bn, ads, M, ρ, st, sl, h.bind.mono fun x H1 ⟨ads1, v, M1, f1, st1, r1, h1⟩ => by
    rw [C.K]
    cases v with
    | lst xs =>
      simp only [thaw] at h1
      obtain ⟨a1, vs, e1, k1, l1⟩ := r1.lst
      exact ⟨a1, vs, e1, .inl (.inl k1), fun p hp => EndE.newLst h1 st1 l1.reverse hp⟩
    | loc m =>
      simp only [thaw] at h1
      cases q : (M1[m]? : Option MO) with
      | none => rw [q] at h1; exact h1.elim
      | some mo =>
        rw [q] at h1
        cases mo with
        | lst xs =>
          obtain ⟨a1, e1, _, vs, k1, l1⟩ := st1.obj r1 q (by intro z; cases z)
          exact ⟨a1, vs, e1, .inl (.inl k1), fun p hp => EndE.newLst h1 st1 l1.reverse hp⟩
        | dct t ks ws => exact h1.elim
        | ins c ks ws => exact h1.elim
        | dead => exact h1.elim
    | _ => exact h1.elim⟩
end
end Zk
-- Zk10
set_option maxHeartbeats 4000000
namespace Zk
open PySem PySem.Spec L2

/-- what a def promises, by the small semantics -/
def EndF (Z : Wd) (H : Hp) (b : Ban) (ads : Ads) (Q : VK) (E : XK) : R PV → Prop
  | .ok v M => ∀ H' ads' x, Aft H ads H' ads' → StoR Z H' b ads' M → Rp Z H' b ads' v x → Q x H'
  | .exc x M => ∀ H' ads' cls d, Aft H ads H' ads' → StoR Z H' b ads' M → XR Z H' b ads' x cls d → E cls d H'
  | .bad => False
def spF (Z : Wd) (g : List PV → Store → R PV) : Sp := fun vs H Q E => ∃ b ads M args, StoR Z H b ads M ∧ RpL Z H b ads args vs ∧ EndF Z H b ads Q E (g args M)

section
variable {Z : Wd} {H : Hp} {b : Ban} {ads : Ads}
def ban2 (b : Ban) (ads : Ads) : Ban := fun a => b a ∨ some a ∈ ads
theorem fz2 {a : Addr} : Fz (ban2 b ads) [] a ↔ Fz b ads a := ⟨fun h => ⟨fun z => h.1 (.inl z), fun z => h.1 (.inr z)⟩, fun h => ⟨fun z => z.elim h.1 h.2, by simp⟩⟩
theorem fz2' {ads2 : Ads} {a : Addr} (h : Fz (ban2 b ads) ads2 a) : Fz b ads a := ⟨fun z => h.1 (.inl z), fun z => h.1 (.inr z)⟩
mutual
theorem Rp.iso : ∀ (p : PV) (x : V), Rp Z H b ads p x → locF p = true → Rp Z H (ban2 b ads) [] p x
  | .non, x, h, _ => by simpa only [Rp] using h
  | .bl _, x, h, _ => by simpa only [Rp] using h
  | .int _, x, h, _ => by simpa only [Rp] using h
  | .str _, x, h, _ => by simpa only [Rp] using h
  | .tup xs, x, h, k => by
    simp only [Rp, fz2] at h ⊢
    simp only [locF] at k
    obtain ⟨a, vs, e, q, r⟩ := h
    exact ⟨a, vs, e, q, RpL.iso xs vs r k⟩
  | .lst xs, x, h, k => by
    simp only [Rp, fz2] at h ⊢
    simp only [locF] at k
    obtain ⟨a, vs, e, q, q', r⟩ := h
    exact ⟨a, vs, e, q, q', RpL.iso xs vs r k⟩
  | .rol xs, x, h, k => by
    simp only [Rp, fz2] at h ⊢
    simp only [locF] at k
    obtain ⟨a, vs, e, q, r⟩ := h
    exact ⟨a, vs, e, q, RpL.iso xs vs r k⟩
  | .dct t ks ws, x, h, k => by
    simp only [locF, Bool.and_eq_true] at k
    cases t with
    | false =>
      simp only [Rp, fz2] at h ⊢
      obtain ⟨a, kvs, e, z, q, r1, r2⟩ := h
      exact ⟨a, kvs, e, z, q, r1, RpL.iso ws _ r2 k.2⟩
    | true =>
      simp only [Rp, fz2] at h ⊢
      obtain ⟨a, xs, vs, e, z, q, ko, n, r1, r2, r3⟩ := h
      exact ⟨a, xs, vs, e, z, q, ko, n, RpL.iso ks _ r1 k.1, RpL.iso ws _ r2 k.2, r3⟩
  | .obj c ks ws, x, h, k => by
    simp only [Rp, fz2] at h ⊢
    simp only [locF] at k
    obtain ⟨a, dx, fs, e, z, q, n, r⟩ := h
    exact ⟨a, dx, fs, e, z, q, n, RpL.iso ws _ r k⟩
  | .loc _, x, h, k => by simp [locF] at k
theorem RpL.iso : ∀ (ps : List PV) (xs : List V), RpL Z H b ads ps xs → locFL ps = true → RpL Z H (ban2 b ads) [] ps xs
  | [], xs, h, _ => by rw [h.nil_inv]; exact RpL.nil
  | p :: ps, xs, h, k => by
    obtain ⟨v, ws, e, r1, r2⟩ := h.cons_inv
    subst e
    simp only [locFL, Bool.and_eq_true] at k
    exact RpL.cons (Rp.iso p v r1 k.1) (RpL.iso ps ws r2 k.2)
end
mutual
theorem Rp.uniso {ads2 : Ads} : ∀ (p : PV) (x : V), Rp Z H (ban2 b ads) ads2 p x → locF p = true → Rp Z H b ads p x
  | .non, x, h, _ => by simpa only [Rp] using h
  | .bl _, x, h, _ => by simpa only [Rp] using h
  | .int _, x, h, _ => by simpa only [Rp] using h
  | .str _, x, h, _ => by simpa only [Rp] using h
  | .tup xs, x, h, k => by
    simp only [Rp] at h ⊢
    simp only [locF] at k
    obtain ⟨a, vs, e, q, r⟩ := h
    refine ⟨a, vs, e, ?_, RpL.uniso xs vs r k⟩
    rcases q with ⟨z, q⟩ | q
    · exact .inl ⟨fz2' z, q⟩
    · exact .inr q
  | .lst xs, x, h, k => by
    simp only [Rp] at h ⊢
    simp only [locF] at k
    obtain ⟨a, vs, e, q, q', r⟩ := h
    exact ⟨a, vs, e, fz2' q, q', RpL.uniso xs vs r k⟩
  | .rol xs, x, h, k => by
    simp only [Rp] at h ⊢
    simp only [locF] at k
    obtain ⟨a, vs, e, q, r⟩ := h
    refine ⟨a, vs, e, ?_, RpL.uniso xs vs r k⟩
    rcases q with ⟨z, q⟩ | q
    · exact .inl ⟨fz2' z, q⟩
    · exact .inr q
  | .dct t ks ws, x, h, k => by
    simp only [locF, Bool.and_eq_true] at k
    cases t with
    | false =>
      simp only [Rp] at h ⊢
      obtain ⟨a, kvs, e, z, q, r1, r2⟩ := h
      exact ⟨a, kvs, e, fz2' z, q, r1, RpL.uniso ws _ r2 k.2⟩
    | true =>
      simp only [Rp] at h ⊢
      obtain ⟨a, xs, vs, e, z, q, ko, n, r1, r2, r3⟩ := h
      exact ⟨a, xs, vs, e, fz2' z, q, ko, n, RpL.uniso ks _ r1 k.1, RpL.uniso ws _ r2 k.2, r3⟩
  | .obj c ks ws, x, h, k => by
    simp only [Rp] at h ⊢
    simp only [locF] at k
    obtain ⟨a, dx, fs, e, z, q, n, r⟩ := h
    exact ⟨a, dx, fs, e, fz2' z, q, n, RpL.uniso ws _ r k⟩
  | .loc _, x, h, k => by simp [locF] at k
theorem RpL.uniso {ads2 : Ads} : ∀ (ps : List PV) (xs : List V), RpL Z H (ban2 b ads) ads2 ps xs → locFL ps = true → RpL Z H b ads ps xs
  | [], xs, h, _ => by rw [h.nil_inv]; exact RpL.nil
  | p :: ps, xs, h, k => by
    obtain ⟨v, ws, e, r1, r2⟩ := h.cons_inv
    subst e
    simp only [locFL, Bool.and_eq_true] at k
    exact RpL.cons (Rp.uniso p v r1 k.1) (RpL.uniso ps ws r2 k.2)
end
theorem StoR.nil2 {M : Store} (s : StoR Z H b ads M) : StoR Z H (ban2 b ads) [] [] where
  len := rfl
  at_ := fun n a e => by simp at e
  dead := fun n e => by simp at e
  inj := fun n m a e => by simp at e
  bt := fun a z => z.elim (s.bt a) s.live
  nb := fun n a e => by simp at e
theorem keep0 {H' : Hp} {ads2 : Ads} (f : Aft H [] H' ads2) : ∀ a o, H a = some o → H' a = some o := fun a o e => f.keep a o e (by simp)
theorem XR.uniso {ads2 : Ads} {x : Exn} {cls : Value} {d : Option Addr} (h : XR Z H (ban2 b ads) ads2 x cls d) (k : ∀ f p, x.f = some (f, p) → locF p = true) : XR Z H b ads x cls d := by
  obtain ⟨h1, h2⟩ := h
  refine ⟨h1, ?_⟩
  cases e : x.f with
  | none => trivial
  | some q =>
    obtain ⟨f, p⟩ := q
    rw [e] at h2
    obtain ⟨a, v, e1, e2, e3, e4⟩ := h2
    exact ⟨a, v, e1, fz2' e2, e3, Rp.uniso p v e4 (k f p e)⟩
/-- from the caller's end to the promise's -/
theorem iso_of {W : WX} {σ : L2.St} {Q : VK} {M : Store} {g : List PV → Store → R PV} {ps : List PV} {vs : List V} (st : StoR Z H b ads M) (r : RpL Z H b ads ps vs) (h : EndE Z W σ H b ads Q (isoCall g ps M)) : spF Z g vs H Q (WE W σ) := by
  unfold isoCall at h
  split at h
  · rename_i hl
    refine ⟨ban2 b ads, [], [], ps, st.nil2, RpL.iso ps vs r hl, ?_⟩
    cases q : g ps [] with
    | bad => rw [q] at h; exact h
    | ok v M' =>
      rw [q] at h
      intro H' ads' x f s rv
      simp only at h
      split at h
      · rename_i hv
        have k := keep0 f
        exact h H' ads x (Aft.kept k) (st.keep k) (Rp.uniso v x rv hv)
      · exact h.elim
    | exc x M' =>
      rw [q] at h
      intro H' ads' cls d f s rx
      have k := keep0 f
      simp only at h
      cases e : x.f with
      | none =>
        rw [e] at h
        exact h H' ads cls d (Aft.kept k) (st.keep k) (XR.uniso rx fun f p z => by rw [e] at z; cases z)
      | some fp =>
        obtain ⟨ff, p⟩ := fp
        rw [e] at h
        simp only at h
        split at h
        · rename_i hp
          exact h H' ads cls d (Aft.kept k) (st.keep k) (XR.uniso rx fun f' p' z => by rw [e] at z; cases z; exact hp)
        · exact h.elim
  · exact h.elim
theorem call_of {W : WX} {σ : L2.St} {Q : VK} {M : Store} {iso : Bool} {g : List PV → Store → R PV} {ps : List PV} {vs : List V} (st : StoR Z H b ads M) (r : RpL Z H b ads ps vs) (h : EndE Z W σ H b ads Q (callV iso g ps M)) : spF Z g vs H Q (WE W σ) := by
  unfold callV at h
  cases iso with
  | true => rw [if_pos rfl] at h; exact iso_of st r h
  | false =>
    rw [if_neg (by decide)] at h
    refine ⟨b, ads, M, ps, st, r, ?_⟩
    cases q : g ps M with
    | bad => rw [q] at h; exact h
    | ok v M' => rw [q] at h; exact h
    | exc x M' => rw [q] at h; exact h
end

structure FnsOk (Z : Wd) (T : Tabs) (call : Calls) (k : Nat) : Prop where
  ok : ∀ f, FnOk Z.P Z.w Z.K Z.mg Z.base (L2.CX Z.P Z.w) k (Z.fA f) (Z.fd f) (Z.ps f) (spF Z (call f))
structure TabsOk (Z : Wd) (T : Tabs) : Prop where
  fld : FldOk Z T
  fn : ∀ f x, T.fnm f = some x → Z.mg x = some (.ref (Z.fA f)) ∧ PySem.W.keepIn Z.K (.ref (Z.fA f)) = true ∧ Binds Z.K (Z.fd f) (Z.ps f) []
  meth : ∀ c m f, T.meth c m = some f → Cls Z.K (Z.cA c) ∧ Meth Z.K (Z.cA c) m (Z.fA f) ∧ Binds Z.K (Z.fd f) (Z.ps f) []

section
variable {Z : Wd} {W : WX} {X : Cx} {k : Nat} {e a b c o : Expr} {es : List Expr} {d da db dc : Sl → Store → R PV} {p pos apos : Pos} {T : Tabs} {call : Calls}
theorem FnsOk.at (F : FnsOk Z T call k) (C : Cok Z k X W) (f : Nat) : FnOk X.prog X.w X.K X.mg X.base (L2.CX X.prog X.w) k (Z.fA f) (Z.fd f) (Z.ps f) (spF Z (call f)) := by
  rw [C.prog, C.w, C.K, C.mg, C.base]; exact F.ok f
theorem s_call {f : Nat} {x : Str} {iso : Bool} (C : Cok Z k X W) (F : FnsOk Z T call k) (TO : TabsOk Z T) (hf : T.fnm f = some x) (hg : Gl X x) (hdb : (x == ("__debug__" : Str)) = false) (hs : noStars (e :: es) = true) (ha : PA X (e :: es) (tA Z W da)) :
    PE X (.Call (.Name x p) (e :: es) [] pos) (tE Z W fun ρ M => (da ρ M).bind fun w M1 => callV iso (call f) (bargs w) M1) := by
  obtain ⟨h1, h2, h3⟩ := TO.fn f x hf
  have hs' := hs
  simp only [noStars, List.all_cons, Bool.and_eq_true] at hs'
  exact impE (pe_callS (E := WE W) (F.at C f) C.room hg (by rw [C.mg]; exact h1) (by rw [C.K]; exact h2) (by rw [C.K]; exact h3) (passAt C.takes) ha hdb (starEach_cons hs'.1) (any_stars hs'.2))
    fun σ H Q ⟨bn, ads, M, ρ, st, sl, h⟩ => ⟨bn, ads, M, ρ, st, sl, h.bindA.mono fun xs H1 ⟨ads1, v, M1, f1, st1, r1, h1⟩ => call_of st1 r1 h1⟩
theorem s_call0 {f : Nat} {x : Str} {iso : Bool} (C : Cok Z k X W) (F : FnsOk Z T call k) (TO : TabsOk Z T) (hf : T.fnm f = some x) (hg : Gl X x) (hdb : (x == ("__debug__" : Str)) = false) :
    PE X (.Call (.Name x p) [] [] pos) (tE Z W fun ρ M => (R.ok (.tup []) M).bind fun w M1 => callV iso (call f) (bargs w) M1) := by
  obtain ⟨h1, h2, h3⟩ := TO.fn f x hf
  refine ⟨fun pins s σ H Q I ⟨bn, ads, M, ρ, st, sl, h⟩ => ?_⟩
  refine wpAny_Call_Name_kw (ld_glob I hg (by rw [C.mg]; exact h1) ?_ hdb)
  exact PySem.W.callWith_K0 I.kIn (by rw [C.K]; exact h2) (run_fnS (E := WE W) (us := []) (vs := []) (F.at C f) C.room (by rw [C.K]; exact h3) (passAt C.takes σ) I .nil (call_of st RpL.nil h))
theorem methF_of {few : Bool} {n : Nat} (h : n < 30) (hs : noStars es = true) {env : Env} : methodCallForm (es.length + ([] : List Keyword).length) (backTo pos (starEach es env)) (backToKw pos (keywordEach [] env)) = decide (es.length < 30) := by
  have e1 : (backTo pos (starEach es env)).all (fun x => !x.1) = true := by
    have := any_stars (pos := pos) (env := env) hs
    rw [List.all_eq_not_any_not]
    simpa using this
  unfold methodCallForm
  have e2 : (backTo pos (starEach es env)).all (!·.1) = true := e1
  rw [e2]
  show (true && true && decide (es.length + 0 + 0 < 30)) = _
  simp
theorem hasN_lookup {m : Str} {v : Type} : ∀ {fs : List (Str × v)}, hasN m (fs.map (·.1)) = false → fs.lookup m = none
  | [], _ => rfl
  | (n, x) :: fs, h => by
    simp only [List.map_cons, hasN, Bool.or_eq_false_iff, decide_eq_false_iff_not] at h
    simp only [List.lookup, beq_eq_false_iff_ne.mpr h.1]
    exact hasN_lookup h.2
theorem meth_of {H : Hp} {bn : Ban} {ads : Ads} {M : Store} {v : PV} {x : V} {m : Str} {f : Nat} (st : StoR Z H bn ads M) (r : Rp Z H bn ads v x) (h : methOf T v m M = some f) :
    ∃ (c : Nat) (a dx : Addr) (fs : List (Str × V)), x = .ref a ∧ H a = some (.ins (Z.cA c) dx fs) ∧ fs.lookup m = none ∧ T.meth c m = some f := by
  have fin : ∀ {c : Nat} {a dx : Addr} {fs : List (Str × V)} {ks : List Str}, x = .ref a → H a = some (.ins (Z.cA c) dx fs) → fs.map (·.1) = ks → (if hasN m ks then none else T.meth c m) = some f →
      ∃ (c : Nat) (a dx : Addr) (fs : List (Str × V)), x = .ref a ∧ H a = some (.ins (Z.cA c) dx fs) ∧ fs.lookup m = none ∧ T.meth c m = some f := by
    intro c a dx fs ks e1 e2 e3 e4
    split at e4
    · cases e4
    · rename_i hn
      subst e3
      exact ⟨c, a, dx, fs, e1, e2, hasN_lookup (by simpa using hn), e4⟩
  cases v with
  | obj c ks ws =>
    simp only [methOf] at h
    simp only [Rp] at r
    obtain ⟨a, dx, fs, e1, _, e2, e3, _⟩ := r
    exact fin e1 e2 e3 h
  | loc n =>
    simp only [methOf] at h
    split at h
    · rename_i c ks ws hm
      obtain ⟨a, e1, _, dx, fs, e2, e3, _⟩ := st.obj r hm (by intro z; cases z)
      exact fin e1 e2 e3 h
    · cases h
  | _ => simp [methOf] at h
theorem eval_mcall {env : Env} {m : Str} (hb : attributeBase o m env (eval o env) = eval o env) (hs : noStars es = true) (hn : es.length < 30) (hl : (apos.endLine == pos.line) = true) :
    eval (.Call (.Attribute o m apos) es [] pos) env = (do
      let ov ← eval o env
      standAt apos.atName
      let (f, first) ← holding [ov] (getMethod ov m (plainOf o env))
      callWith pos f first (backTo pos (starEach es env)) (backToKw pos (keywordEach [] env))) := by
  rw [arm_eval_Call, hb]
  have e : ∀ ov, methodCall o m apos pos env ov (es.length + ([] : List Keyword).length) (backTo pos (starEach es env)) (backToKw pos (keywordEach [] env)) = (do
      let (f, first) ← holding [ov] (getMethod ov m (plainOf o env))
      callWith pos f first (backTo pos (starEach es env)) (backToKw pos (keywordEach [] env))) := fun ov => mcall_line (by rw [methF_of (n := 0) (by decide) hs (few := true)]; exact decide_eq_true hn) hl
  simp only [e]
theorem s_meth {m : Str} {iso : Bool} (C : Cok Z k X W) (F : FnsOk Z T call k) (TO : TabsOk Z T) (hb : attributeBase o m X.env (eval o X.env) = eval o X.env) (hs : noStars es = true) (hn : es.length < 30) (hl : (apos.endLine == pos.line) = true)
    (ho : PE X o (tE Z W db)) (ha : PA X es (tA Z W da)) (h0 : es ≠ [] ∨ (es = [] ∧ da = fun _ M => .ok (.tup []) M)) :
    PE X (.Call (.Attribute o m apos) es [] pos) (tE Z W fun ρ M => (db ρ M).bind fun x M1 => match methOf T x m M1 with
      | some f => (da ρ M1).bind fun w M2 => callV iso (call f) (x :: bargs w) M2
      | none => .bad) := by
  refine ⟨fun pins s σ H Q I ⟨bn, ads, M, ρ, st, sl, h⟩ => ?_⟩
  refine PySem.W.methodCall_KW (pl := plainOf o X.env) (thn (ho.run pins s σ H _ I ⟨bn, ads, M, ρ, st, sl, h.bind⟩) fun u s1 ⟨x, H1, I1, rx, ads1, v, M1, f1, st1, r1, h1⟩ => ?_) (eval_mcall hb hs hn hl)
  cases q : methOf T v m M1 with
  | none => simp only [q] at h1; exact h1.elim
  | some f =>
    simp only [q] at h1
    obtain ⟨c, a, dx, fs, ex, ea, l, em⟩ := meth_of st1 r1 q
    subst ex
    obtain rfl : u = Value.ref a := rx
    obtain ⟨g1, g2, g3⟩ := TO.meth c m f em
    rw [← C.K] at g1 g2 g3
    refine getmeth_ok I1 ea g1 g2 l ?_
    rcases h0 with h0 | ⟨h0, h0'⟩
    · cases es with
      | nil => exact (h0 rfl).elim
      | cons y ys =>
        have hs' := hs
        simp only [noStars, List.all_cons, Bool.and_eq_true] at hs'
        refine PySem.W.callWith_K (first := [.ref a]) (h₀ := X.base) I.ok.mod.kin g2.kp (thn (ha.run pos pins s1 σ H1 _ I1 ⟨bn, ads1, M1, ρ, st1, sl.aft f1, h1.bindA⟩) fun us s2 ⟨vs, H2, I2, r, ads2, w, M2, f2, st2, r2, h2⟩ => ⟨I2.kIn, ?_⟩) (starEach_cons hs'.1) (any_stars hs'.2)
        exact run_fnS (E := WE W) (us := .ref a :: us) (vs := .ref a :: vs) (F.at C f) C.room g3 (passAt C.takes σ) I2 (.cons rfl r) (call_of st2 (RpL.cons (Rp.aft f2 _ _ r1) r2) h2)
    · subst h0
      subst h0'
      exact PySem.W.callWith_K0 (first := [.ref a]) I1.kIn g2.kp (run_fnS (E := WE W) (us := [.ref a]) (vs := [.ref a]) (F.at C f) C.room g3 (passAt C.takes σ) I1 (.cons rfl .nil) (call_of st1 (RpL.cons r1 RpL.nil) h1))
end
end Zk
-- Zk11
set_option maxHeartbeats 4000000
namespace Zk
open PySem PySem.Spec L2

section
variable {Z : Wd} {W : WX} {H : Hp} {b : Ban} {ads : Ads}
theorem upd2_keep {x dx : Addr} {o1 o2 : HO} (h1 : H x = none) (h2 : H dx = none) (h3 : dx ≠ x) : ∀ a o, H a = some o → upd (upd H dx o1) x o2 a = some o := fun a o e =>
  keep_upd (by rw [upd_ne h3.symm]; exact h1) a o (keep_upd h2 a o e)
theorem make_of {σ : L2.St} {Q : VK} {M : Store} {fz : Bool} {c : Nat} {g : List PV → Store → R PV} {ps : List PV} {vs : List V} (st : StoR Z H b ads M) (r : RpL Z H b ads ps vs) (h : EndE Z W σ H b ads Q (makeV fz c g ps M)) :
    ∀ x dx, H x = none → H dx = none → dx ≠ x → spF Z g (.ref x :: vs) (upd (upd H dx (.own x)) x (.ins (Z.cA c) dx [])) (fun v H2 => v = .non ∧ Q (.ref x) H2) (WE W σ) := by
  intro x dx hx hdx hne
  have hx1 : upd H dx (.own x) x = none := by rw [upd_ne hne.symm]; exact hx
  unfold makeV at h
  cases fz with
  | true =>
    rw [if_pos rfl] at h
    split at h
    · rename_i hl
      have f1 : Aft H [] (upd H dx (.own x)) [] := Aft.laid hdx
      have f2 : Aft (upd H dx (.own x)) [] (upd (upd H dx (.own x)) x (.ins (Z.cA c) dx [])) ([] ++ [some x]) := Aft.push hx1
      have s1 : StoR Z (upd H dx (.own x)) (ban2 b ads) [] [] := st.nil2.keep (keep_upd hdx)
      have s2 : StoR Z (upd (upd H dx (.own x)) x (.ins (Z.cA c) dx [])) (ban2 b ads) ([] ++ [some x]) ([] ++ [.ins c [] []]) := s1.push hx1 ⟨dx, [], upd_same, rfl, RpL.nil⟩
      refine ⟨ban2 b ads, [some x], [.ins c [] []], .loc 0 :: ps, s2, RpL.cons (rp_loc rfl) (RpL.aft (f1.trans f2) _ _ (RpL.iso ps vs r hl)), ?_⟩
      have keep : ∀ {H' : Hp} {ads' : Ads}, Aft (upd (upd H dx (.own x)) x (.ins (Z.cA c) dx [])) [some x] H' ads' → ∀ a o, H a = some o → H' a = some o := fun f a o e =>
        f.keep a o (upd2_keep hx hdx hne a o e) (by simp; exact ne_of_none e hx)
      cases q : g (.loc 0 :: ps) [.ins c [] []] with
      | bad => rw [q] at h; exact h
      | exc y M' =>
        rw [q] at h
        intro H' ads' cls d f s rx
        have kk := keep f
        simp only at h
        cases e : y.f with
        | none =>
          rw [e] at h
          exact h H' ads cls d (Aft.kept kk) (st.keep kk) (XR.uniso rx fun f p z => by rw [e] at z; cases z)
        | some fp =>
          obtain ⟨ff, p⟩ := fp
          rw [e] at h
          simp only at h
          split at h
          · rename_i hp
            exact h H' ads cls d (Aft.kept kk) (st.keep kk) (XR.uniso rx fun f' p' z => by rw [e] at z; cases z; exact hp)
          · exact h.elim
      | ok v M' =>
        rw [q] at h
        cases v with
        | non =>
          simp only at h
          intro H' ads' y f s rv
          have kk := keep f
          refine ⟨rv.non, ?_⟩
          cases em : (M'[0]? : Option MO) with
          | none => rw [em] at h; exact h.elim
          | some mo =>
            rw [em] at h
            cases mo with
            | ins c' ks ws =>
              simp only at h
              split at h
              · rename_i hc
                simp only [Bool.and_eq_true, beq_iff_eq] at hc
                obtain ⟨hw, rfl⟩ := hc
                have ha : ads'[0]? = some (some x) := by
                  have hlen : 0 < ads'.length := Nat.lt_of_lt_of_le (by simp) f.le
                  obtain ⟨z, hz⟩ : ∃ z, ads'[0]? = some z := ⟨ads'[0], by simp [hlen]⟩
                  cases z with
                  | none => have := s.dead 0 hz; rw [em] at this; cases this
                  | some a =>
                    have := f.old 0 a (by simp) hz
                    simp at this
                    rw [hz, this]
                obtain ⟨mo', e1, em'⟩ := s.at_ 0 x ha
                rw [em] at e1
                cases e1
                obtain ⟨dx', fs, e2, e3, e4⟩ := em'
                refine h H' ads (.ref x) (Aft.kept kk) (st.keep kk) ?_
                simp only [Rp]
                exact ⟨x, dx', fs, rfl, st.fresh hx, e2, e3, RpL.uniso ws _ e4 hw⟩
              · exact h.elim
            | _ => exact h.elim
        | _ => exact h.elim
    · exact h.elim
  | false =>
    rw [if_neg (by decide)] at h
    have f1 : Aft H ads (upd H dx (.own x)) ads := Aft.laid hdx
    have f2 : Aft (upd H dx (.own x)) ads (upd (upd H dx (.own x)) x (.ins (Z.cA c) dx [])) (ads ++ [some x]) := Aft.push hx1
    have s1 : StoR Z (upd H dx (.own x)) b ads M := st.keep (keep_upd hdx)
    have s2 : StoR Z (upd (upd H dx (.own x)) x (.ins (Z.cA c) dx [])) b (ads ++ [some x]) (M ++ [.ins c [] []]) := s1.push hx1 ⟨dx, [], upd_same, rfl, RpL.nil⟩
    refine ⟨b, ads ++ [some x], M ++ [.ins c [] []], .loc M.length :: ps, s2, RpL.cons (rp_loc (by rw [← st.len]; exact app_eq)) (RpL.aft (f1.trans f2) _ _ r), ?_⟩
    cases q : g (.loc M.length :: ps) (M ++ [.ins c [] []]) with
    | bad => rw [q] at h; exact h
    | exc y M' =>
      rw [q] at h
      exact fun H' ads' cls d f s rx => h H' ads' cls d ((f1.trans f2).trans f) s rx
    | ok v M' =>
      rw [q] at h
      cases v with
      | non =>
        intro H' ads' y f s rv
        refine ⟨rv.non, h H' ads' (.ref x) ((f1.trans f2).trans f) s ?_⟩
        exact Rp.aft f _ _ (rp_loc (by rw [← st.len]; exact app_eq))
      | _ => exact h.elim
end
section
variable {X : Cx} {CX : CXT} {k : Nat} {f C : Addr} {fd : FuncData} {ps : List Str} {sp : Sp} {E : St → XK}
/-- run_make with what is raised wished for at the slots -/
theorem run_makeS {pins : List (Addr × Obj)} {σ : L2.St} {H : Hp} {s : Shared} {Q : VK} {us : List Value} {vs : List V} {E : XK} (M : Mk X.K C f) (F : FnOk X.prog X.w X.K X.mg X.base CX k f fd ps sp) (hr : Room (k + 1) X.A) (hb : Binds X.K fd ps [])
    (hx : PassesAt CX X σ E) (I : Inv X pins σ H s) (r : Vals vs us)
    (h : ∀ x dx, H x = none → H dx = none → dx ≠ x → sp (.ref x :: vs) (upd (upd H dx (.own x)) x (.ins C dx [])) (fun v H2 => v = .non ∧ Q (.ref x) H2) E) :
    wpAny (model X.prog X.w) X.A (call (.ref C) us) (EP X pins σ Q) X.xe s := by
  have hq := h (s.heap.objs.size + 1) s.heap.objs.size (I.hok.fresh (Nat.le_succ _)) (I.hok.fresh (Nat.le_refl _)) (Nat.ne_of_lt (Nat.lt_succ_self _))
  have I2 := Inv.made (C := C) I
  have r2 : Vals (V.ref (s.heap.objs.size + 1) :: vs) (Value.ref (s.heap.objs.size + 1) :: us) := .cons rfl r
  have hl : (Value.ref (s.heap.objs.size + 1) :: us ++ []).length = ps.length := by
    have e := r2.length
    rw [F.len _ _ _ _ hq] at e
    rw [List.append_nil]
    exact e.symm
  have hb' := hb { s with heap := ((s.heap.push { cls := .type "dict", data := .dict #[] }).push (PySem.W.instObj C s.heap.objs.size)) } (Value.ref (s.heap.objs.size + 1) :: us)
  refine wpAny_call (make_map (f := f) I.kIn M.makes M.init (beq_iff_eq.mp M.fn) (codeAny_mono (F.run _ X.stack _ _ ⟨Value.ref (s.heap.objs.size + 1) :: us, []⟩ (Value.ref (s.heap.objs.size + 1) :: us) _ _ E (hr.make C us [])
    (I2.env0.make C us []) (by have z := hb _ (Value.ref (s.heap.objs.size + 1) :: us) I2.kIn hl; rw [List.append_nil] at z; exact z) r2 hq) fun r s' hq' => ?_))
  cases r with
  | error e => exact hx pins _ _ e s' I2 hq'
  | ok fl =>
    cases fl with
    | ret u =>
      obtain ⟨v, H', I3, rv, ev, q3⟩ := I2.after hq'
      subst ev
      exact ⟨rv, ⟨V.ref (s.heap.objs.size + 1), H', I3, rfl, q3⟩⟩
    | next => exact False.elim hq'
    | brk => exact False.elim hq'
    | cont => exact False.elim hq'
theorem run_makeDS {pins : List (Addr × Obj)} {σ : L2.St} {H : Hp} {s : Shared} {Q : VK} {us : List Value} {vs : List V} {E : XK} {dvs : List V} {ds : List Value} (M : Mk X.K C f) (F : FnOk X.prog X.w X.K X.mg X.base CX k f fd ps sp) (hr : Room (k + 1) X.A) (hb : Binds X.K fd ps ds) (hd : Vals dvs ds)
    (hx : PassesAt CX X σ E) (I : Inv X pins σ H s) (r : Vals vs us)
    (h : ∀ x dx, H x = none → H dx = none → dx ≠ x → sp (.ref x :: (vs ++ dvs)) (upd (upd H dx (.own x)) x (.ins C dx [])) (fun v H2 => v = .non ∧ Q (.ref x) H2) E) :
    wpAny (model X.prog X.w) X.A (call (.ref C) us) (EP X pins σ Q) X.xe s := by
  have hq := h (s.heap.objs.size + 1) s.heap.objs.size (I.hok.fresh (Nat.le_succ _)) (I.hok.fresh (Nat.le_refl _)) (Nat.ne_of_lt (Nat.lt_succ_self _))
  have I2 := Inv.made (C := C) I
  have r2 : Vals (V.ref (s.heap.objs.size + 1) :: (vs ++ dvs)) (Value.ref (s.heap.objs.size + 1) :: (us ++ ds)) := .cons rfl (r.append hd)
  have hl : (Value.ref (s.heap.objs.size + 1) :: us ++ ds).length = ps.length := by
    have e := r2.length
    rw [F.len _ _ _ _ hq] at e
    exact e.symm
  refine wpAny_call (make_map (f := f) I.kIn M.makes M.init (beq_iff_eq.mp M.fn) (codeAny_mono (F.run _ X.stack _ _ ⟨Value.ref (s.heap.objs.size + 1) :: us, []⟩ (Value.ref (s.heap.objs.size + 1) :: (us ++ ds)) _ _ E (hr.make C us [])
    (I2.env0.make C us []) (hb _ (Value.ref (s.heap.objs.size + 1) :: us) I2.kIn hl) r2 hq) fun r s' hq' => ?_))
  cases r with
  | error e => exact hx pins _ _ e s' I2 hq'
  | ok fl =>
    cases fl with
    | ret u =>
      obtain ⟨v, H', I3, rv, ev, q3⟩ := I2.after hq'
      subst ev
      exact ⟨rv, ⟨V.ref (s.heap.objs.size + 1), H', I3, rfl, q3⟩⟩
    | next => exact False.elim hq'
    | brk => exact False.elim hq'
    | cont => exact False.elim hq'
theorem run_makeKS {pins : List (Addr × Obj)} {σ : L2.St} {H : Hp} {s : Shared} {Q : VK} {us ws : List Value} {vs zs : List V} {E : XK} {n : Nat} {ks : List Str} {g : List Value → List Value → List Value} {gV : List V → List V → List V} (M : Mk X.K C f) (F : FnOk X.prog X.w X.K X.mg X.base CX k f fd ps sp) (hr : Room (k + 1) X.A) (hb : KBn X.K fd ps (n + 1) ks g gV) (hx : PassesAt CX X σ E)
    (I : Inv X pins σ H s) (r : Vals vs us) (rz : Vals zs ws) (l1 : vs.length = n) (l2 : zs.length = ks.length)
    (h : ∀ x dx, H x = none → H dx = none → dx ≠ x → sp (gV (.ref x :: vs) zs) (upd (upd H dx (.own x)) x (.ins C dx [])) (fun v H2 => v = .non ∧ Q (.ref x) H2) E) :
    wpAny (model X.prog X.w) X.A (call (.ref C) us (ks.zip ws)) (EP X pins σ Q) X.xe s := by
  have hq := h (s.heap.objs.size + 1) s.heap.objs.size (I.hok.fresh (Nat.le_succ _)) (I.hok.fresh (Nat.le_refl _)) (Nat.ne_of_lt (Nat.lt_succ_self _))
  have I2 := Inv.made (C := C) I
  have r1 : Vals (V.ref (s.heap.objs.size + 1) :: vs) (Value.ref (s.heap.objs.size + 1) :: us) := .cons rfl r
  have r2 := hb.rel r1 rz
  have n1 : (Value.ref (s.heap.objs.size + 1) :: us).length = n + 1 := by
    rw [List.length_cons, ← r.length, l1]
  refine wpAny_call (make_map (f := f) I.kIn M.makes M.init (beq_iff_eq.mp M.fn) (codeAny_mono (F.run _ X.stack _ _ ⟨Value.ref (s.heap.objs.size + 1) :: us, ks.zip ws⟩ (g (Value.ref (s.heap.objs.size + 1) :: us) ws) _ _ E (hr.make C us (ks.zip ws))
    (I2.env0.make C us (ks.zip ws)) (hb.to _ (Value.ref (s.heap.objs.size + 1) :: us) ws I2.kIn n1 (rz.length.symm.trans l2)) r2 hq) fun r s' hq' => ?_))
  cases r with
  | error e => exact hx pins _ _ e s' I2 hq'
  | ok fl =>
    cases fl with
    | ret u =>
      obtain ⟨v, H', I3, rv, ev, q3⟩ := I2.after hq'
      subst ev
      exact ⟨rv, ⟨V.ref (s.heap.objs.size + 1), H', I3, rfl, q3⟩⟩
    | next => exact False.elim hq'
    | brk => exact False.elim hq'
    | cont => exact False.elim hq'
end
/-- what is known of the classes that are made -/
structure MkOk (Z : Wd) (T : Tabs) : Prop where
  mks : ∀ c x, T.cnm c = some x → T.kwo c = [] → Z.mg x = some (.ref (Z.cA c)) ∧ Mk Z.K (Z.cA c) (Z.fA (T.init c)) ∧ Binds Z.K (Z.fd (T.init c)) (Z.ps (T.init c)) []
section
variable {Z : Wd} {W : WX} {X : Cx} {k : Nat} {e a b c o : Expr} {es : List Expr} {d da db dc : Sl → Store → R PV} {p pos apos : Pos} {T : Tabs} {call : Calls}
theorem s_make {c : Nat} {x : Str} {fz : Bool} (C : Cok Z (k + 1) X W) (F : FnsOk Z T call k) (MO : MkOk Z T) (hf : T.cnm c = some x) (hk : T.kwo c = []) (hg : Gl X x) (hdb : (x == ("__debug__" : Str)) = false) (hs : noStars (e :: es) = true) (ha : PA X (e :: es) (tA Z W da)) :
    PE X (.Call (.Name x p) (e :: es) [] pos) (tE Z W fun ρ M => (da ρ M).bind fun w M1 => makeV fz c (call (T.init c)) (bargs w) M1) := by
  obtain ⟨h1, h2, h3⟩ := MO.mks c x hf hk
  have hs' := hs
  simp only [noStars, List.all_cons, Bool.and_eq_true] at hs'
  have FF : FnOk X.prog X.w X.K X.mg X.base (L2.CX X.prog X.w) k (Z.fA (T.init c)) (Z.fd (T.init c)) (Z.ps (T.init c)) (spF Z (call (T.init c))) := by rw [C.prog, C.w, C.K, C.mg, C.base]; exact F.ok _
  rw [← C.K] at h2 h3
  refine ⟨fun pins s σ H Q I ⟨bn, ads, M, ρ, st, sl, h⟩ => ?_⟩
  refine wpAny_Call_Name_kw (ld_glob I hg (by rw [C.mg]; exact h1) ?_ hdb)
  refine PySem.W.callWith_K (h₀ := X.base) I.ok.mod.kin h2.kp (thn (ha.run pos pins s σ H _ I ⟨bn, ads, M, ρ, st, sl, h.bindA⟩) fun us s1 ⟨vs, H1, I1, r, ads1, w, M1, f1, st1, r1, h1⟩ => ⟨I1.kIn, ?_⟩) (starEach_cons hs'.1) (any_stars hs'.2)
  exact run_makeS h2 FF C.room h3 (passAt C.takes σ) I1 r (make_of st1 r1 h1)
def kwGetV (n : Str) : List Str → List V → V
  | k :: ks, v :: vs => if n = k then v else kwGetV n ks vs
  | _, _ => .non
def fillV (names ks : List Str) (vs : List V) : List V := names.map fun n => kwGetV n ks vs
theorem kwGet_rp {H : Hp} {bn : Ban} {ads : Ads} (n : Str) : ∀ {ks : List Str} {ps : List PV} {vs : List V}, RpL Z H bn ads ps vs → Rp Z H bn ads (kwGet n ks ps) (kwGetV n ks vs)
  | [], ps, vs, h => by unfold kwGet kwGetV; exact rp_non
  | k :: ks, [], vs, h => by rw [h.nil_inv]; exact rp_non
  | k :: ks, p :: ps, vs, h => by
    obtain ⟨v, us, e, r1, r2⟩ := h.cons_inv
    subst e
    simp only [kwGet, kwGetV]
    split
    · exact r1
    · exact kwGet_rp n r2
theorem fill_rp {H : Hp} {bn : Ban} {ads : Ads} {ks : List Str} {ps : List PV} {vs : List V} (h : RpL Z H bn ads ps vs) : ∀ names : List Str, RpL Z H bn ads (fillK names ks ps) (fillV names ks vs)
  | [] => RpL.nil
  | n :: ns => RpL.cons (kwGet_rp n h) (fill_rp h ns)
structure MkK (Z : Wd) (T : Tabs) (c : Nat) (x : Str) : Prop where
  gl : Z.mg x = some (.ref (Z.cA c))
  mk' : Mk Z.K (Z.cA c) (Z.fA (T.init c))
  kb : ∀ ks : List Str, ks ≠ [] → ks.Sublist (T.kwo c) → ∃ g gV, KBn Z.K (Z.fd (T.init c)) (Z.ps (T.init c)) (T.npo c + 1) ks g gV ∧ ∀ vs zs, vs.length = T.npo c + 1 → zs.length = ks.length → gV vs zs = vs ++ fillV (T.kwo c) ks zs
  nb : ∃ ds, Binds Z.K (Z.fd (T.init c)) (Z.ps (T.init c)) ds ∧ Vals (fillV (T.kwo c) [] []) ds
theorem PK_of {kws : List Keyword} {t t' : TA} (h : PK X kws t) (i : ∀ σ H Q, t' σ H Q → t σ H Q) : PK X kws t' := ⟨fun pos pins s σ H Q I q => h.run pos pins s σ H Q I (i _ _ _ q)⟩
theorem s_knil : PK X [] (tA Z W fun _ M => .ok (.tup []) M) := PK_of pk_nil fun _ H _ ⟨_, ads, _, _, st, _, h⟩ => h H ads [] Aft.refl st RpL.nil
theorem s_kcons {nm : Option Str} {kpos : Pos} {kws : List Keyword} (ha : PE X e (tE Z W da)) (hr : PK X kws (tA Z W db)) : PK X (⟨nm, e, kpos⟩ :: kws) (tA Z W fun ρ M => (da ρ M).bind fun v M1 => (db ρ M1).bind fun w M2 => .ok (.tup (v :: bargs w)) M2) :=
  PK_of (pk_cons ha hr) fun σ H Q ⟨bn, ads, M, ρ, st, sl, h⟩ =>
    ⟨bn, ads, M, ρ, st, sl, h.bind.mono fun x H1 ⟨ads1, v, M1, f1, st1, r1, h1⟩ =>
      ⟨bn, ads1, M1, ρ, st1, sl.aft f1, h1.bindA.mono fun xs H2 ⟨ads2, w, M2, f2, st2, r2, h2⟩ => h2 H2 ads2 (x :: xs) Aft.refl st2 (RpL.cons (Rp.aft f2 _ _ r1) r2)⟩⟩
theorem s_makeK {c : Nat} {x : Str} {fz : Bool} {kws : List Keyword} {ks : List Str} (C : Cok Z (k + 1) X W) (F : FnsOk Z T call k) (MO : MkK Z T c x) (hn : (e :: es).length = T.npo c) (hks : ks ≠ []) (hsub : ks.Sublist (T.kwo c)) (hg : Gl X x) (hdb : (x == ("__debug__" : Str)) = false) (hs : noStars (e :: es) = true)
    (hall : (backToKw pos (keywordEach kws X.env)).all (·.1.isSome) = true) (hnm : (backToKw pos (keywordEach kws X.env)).filterMap (·.1) = ks) (hpl : ((backTo pos (starEach (e :: es) X.env)).any (·.1) || (backToKw pos (keywordEach kws X.env)).any (·.1.isNone)) = false)
    (ha : PA X (e :: es) (tA Z W da)) (hk : PK X kws (tA Z W db)) (hlen : ∀ ρ M w M1, da ρ M = .ok w M1 → (bargs w).length = (e :: es).length) :
    PE X (.Call (.Name x p) (e :: es) kws pos) (tE Z W fun ρ M => (da ρ M).bind fun w M1 => (db ρ M1).bind fun w2 M2 => if (bargs w2).length == ks.length then makeV fz c (call (T.init c)) (bargs w ++ fillK (T.kwo c) ks (bargs w2)) M2 else .bad) := by
  obtain ⟨g, gV, h3, h4⟩ := MO.kb ks hks hsub
  have h2 := MO.mk'
  have hs' := hs
  simp only [noStars, List.all_cons, Bool.and_eq_true] at hs'
  have FF : FnOk X.prog X.w X.K X.mg X.base (L2.CX X.prog X.w) k (Z.fA (T.init c)) (Z.fd (T.init c)) (Z.ps (T.init c)) (spF Z (call (T.init c))) := by rw [C.prog, C.w, C.K, C.mg, C.base]; exact F.ok _
  rw [← C.K] at h2 h3
  refine ⟨fun pins s σ H Q I ⟨bn, ads, M, ρ, st, sl, h⟩ => ?_⟩
  refine wpAny_Call_Name_kw (ld_glob I hg (by rw [C.mg]; exact MO.gl) ?_ hdb)
  have hq : EndA Z W σ H bn ads (fun xs H1 => xs.length = (e :: es).length ∧ ∃ ads1 v M1, Aft H ads H1 ads1 ∧ StoR Z H1 bn ads1 M1 ∧ RpL Z H1 bn ads1 (bargs v) xs ∧ EndE Z W σ H1 bn ads1 Q ((db ρ M1).bind fun w2 M2 => if (bargs w2).length == ks.length then makeV fz c (call (T.init c)) (bargs v ++ fillK (T.kwo c) ks (bargs w2)) M2 else .bad)) (da ρ M) := by
    have z := h.bindA
    cases q : da ρ M with
    | bad => rw [q] at z; exact z
    | exc y M' => rw [q] at z; exact z
    | ok w M' =>
      rw [q] at z
      exact fun H1 a1 xs g1 s1 p1 => ⟨by rw [← p1.length, hlen ρ M w M' q], z H1 a1 xs g1 s1 p1⟩
  refine PySem.W.callWith_KW (h₀ := X.base) I.ok.mod.kin h2.kp hall (thn (ha.run pos pins s σ H _ I ⟨bn, ads, M, ρ, st, sl, hq⟩) fun us s1 ⟨vs, H1, I1, r, lv, ads1, w, M1, f1, st1, r1, h1⟩ => ?_) hpl (starEach_cons hs'.1)
  refine thn (hk.run pos pins s1 σ H1 _ I1 ⟨bn, ads1, M1, ρ, st1, sl.aft f1, h1.bindA⟩) fun ws s2 ⟨zs, H2, I2, rz, ads2, w2, M2, f2, st2, r2, h2'⟩ => ⟨I2.kIn, ?_⟩
  rw [hnm]
  split at h2'
  · rename_i hl
    have hl' : (bargs w2).length = ks.length := by simpa using hl
    have lz : zs.length = ks.length := by rw [← r2.length]; exact hl'
    refine run_makeKS h2 FF C.room h3 (passAt C.takes σ) I2 r rz (by rw [lv, hn]) lz ?_
    intro x' dx' n1 n2 n3
    rw [h4 (.ref x' :: vs) zs (by rw [List.length_cons, lv, hn]) lz]
    exact make_of st2 (RpL.append (RpL.aft f2 _ _ r1) (fill_rp r2 _)) h2' x' dx' n1 n2 n3
  · exact h2'.elim
/-- the same, no keyword given -/
theorem s_makeK0 {c : Nat} {x : Str} {fz : Bool} (C : Cok Z (k + 1) X W) (F : FnsOk Z T call k) (MO : MkK Z T c x) (hg : Gl X x) (hdb : (x == ("__debug__" : Str)) = false) (hs : noStars (e :: es) = true) (ha : PA X (e :: es) (tA Z W da)) :
    PE X (.Call (.Name x p) (e :: es) [] pos) (tE Z W fun ρ M => (da ρ M).bind fun w M1 => (R.ok (.tup []) M1).bind fun w2 M2 => if (bargs w2).length == ([] : List Str).length then makeV fz c (call (T.init c)) (bargs w ++ fillK (T.kwo c) [] (bargs w2)) M2 else .bad) := by
  obtain ⟨ds, h3, h4⟩ := MO.nb
  have h2 := MO.mk'
  have hs' := hs
  simp only [noStars, List.all_cons, Bool.and_eq_true] at hs'
  have FF : FnOk X.prog X.w X.K X.mg X.base (L2.CX X.prog X.w) k (Z.fA (T.init c)) (Z.fd (T.init c)) (Z.ps (T.init c)) (spF Z (call (T.init c))) := by rw [C.prog, C.w, C.K, C.mg, C.base]; exact F.ok _
  rw [← C.K] at h2 h3
  refine ⟨fun pins s σ H Q I ⟨bn, ads, M, ρ, st, sl, h⟩ => ?_⟩
  refine wpAny_Call_Name_kw (ld_glob I hg (by rw [C.mg]; exact MO.gl) ?_ hdb)
  refine PySem.W.callWith_K (h₀ := X.base) I.ok.mod.kin h2.kp (thn (ha.run pos pins s σ H _ I ⟨bn, ads, M, ρ, st, sl, h.bindA⟩) fun us s1 ⟨vs, H1, I1, r, ads1, w, M1, f1, st1, r1, h1⟩ => ⟨I1.kIn, ?_⟩) (starEach_cons hs'.1) (any_stars hs'.2)
  exact run_makeDS h2 FF C.room h3 h4 (passAt C.takes σ) I1 r (make_of st1 (RpL.append r1 (fill_rp RpL.nil _)) h1)
theorem s_frz (ha : PE X e (tE Z W da)) : PE X e (tE Z W fun ρ M => (da ρ M).bind fun v M1 => frzV v M1) :=
  impE ha fun σ H Q ⟨bn, ads, M, ρ, st, sl, h⟩ => ⟨bn, ads, M, ρ, st, sl, h.bind.mono fun x H1 ⟨ads1, v, M1, f1, st1, r1, h1⟩ => by
    cases v with
    | loc n =>
      simp only [frzV] at h1
      cases q : (M1[n]? : Option MO) with
      | none => rw [q] at h1; exact h1.elim
      | some mo =>
        rw [q] at h1
        cases mo with
        | lst xs =>
          obtain ⟨a, ex, ea, vs, hv, rv⟩ := st1.obj r1 q (by intro z; cases z)
          refine h1 H1 (ads1.set n none) x Aft.freeze (st1.freeze ea) ?_
          simp only [Rp]
          exact ⟨a, vs, ex, fz_freeze st1 ea, hv, RpL.aft Aft.freeze _ _ rv⟩
        | dct t ks ws =>
          cases t with
          | true =>
            obtain ⟨a, ex, ea, xs, vs, hv, ko, n1, l1, l2, l3⟩ := st1.obj r1 q (by intro z; cases z)
            refine h1 H1 (ads1.set n none) x Aft.freeze (st1.freeze ea) ?_
            simp only [Rp]
            exact ⟨a, xs, vs, ex, fz_freeze st1 ea, hv, ko, n1, RpL.aft Aft.freeze _ _ l1, RpL.aft Aft.freeze _ _ l2, l3⟩
          | false =>
            obtain ⟨a, ex, ea, kvs, hv, ek, l2⟩ := st1.obj r1 q (by intro z; cases z)
            refine h1 H1 (ads1.set n none) x Aft.freeze (st1.freeze ea) ?_
            simp only [Rp]
            exact ⟨a, kvs, ex, fz_freeze st1 ea, hv, ek, RpL.aft Aft.freeze _ _ l2⟩
        | ins c ks ws =>
          obtain ⟨a, ex, ea, dx, fs, hv, ek, l2⟩ := st1.obj r1 q (by intro z; cases z)
          refine h1 H1 (ads1.set n none) x Aft.freeze (st1.freeze ea) ?_
          simp only [Rp]
          exact ⟨a, dx, fs, ex, fz_freeze st1 ea, hv, ek, RpL.aft Aft.freeze _ _ l2⟩
        | dead => exact h1.elim
    | _ => exact h1.elim⟩
end
end Zk
-- Zk12
set_option maxHeartbeats 4000000
namespace Zk
open PySem PySem.Spec L2

theorem bools_rp {Z : Wd} {H : Hp} {bn : Ban} {ads : Ads} : ∀ {xs : List PV} {vs : List V} {bs : List Bool}, RpL Z H bn ads xs vs → boolsL xs = some bs → vs = bs.map V.bl
  | [], vs, bs, h, e => by cases e; exact h.nil_inv
  | x :: xs, vs, bs, h, e => by
    obtain ⟨v, ws, ev, r1, r2⟩ := h.cons_inv
    subst ev
    cases x with
    | bl b =>
      simp only [boolsL] at e
      obtain ⟨bs', e', rfl⟩ := Option.map_eq_some_iff.mp e
      rw [r1.bl, bools_rp r2 e']; rfl
    | _ => simp [boolsL] at e
theorem ints_rp {Z : Wd} {H : Hp} {bn : Ban} {ads : Ads} : ∀ {xs : List PV} {vs : List V} {ns : List Int}, RpL Z H bn ads xs vs → intsL xs = some ns → vs = ns.map V.int
  | [], vs, bs, h, e => by cases e; exact h.nil_inv
  | x :: xs, vs, bs, h, e => by
    obtain ⟨v, ws, ev, r1, r2⟩ := h.cons_inv
    subst ev
    cases x with
    | int b =>
      simp only [intsL] at e
      obtain ⟨bs', e', rfl⟩ := Option.map_eq_some_iff.mp e
      rw [r1.int, ints_rp r2 e']; rfl
    | _ => simp [intsL] at e
theorem rp_ints {Z : Wd} {H : Hp} {bn : Ban} {ads : Ads} : ∀ ns : List Int, RpL Z H bn ads (ns.map PV.int) (ns.map V.int)
  | [] => RpL.nil
  | n :: ns => RpL.cons rp_int (rp_ints ns)
theorem maxI_spec : ∀ {ns : List Int} {m : Int}, maxI ns = some m → m ∈ ns ∧ ∀ y ∈ ns, y ≤ m
  | [], m, h => by cases h
  | i :: r, m, h => by
    simp only [maxI] at h
    cases q : maxI r with
    | none =>
      rw [q] at h
      cases h
      have : r = [] := by
        cases r with
        | nil => rfl
        | cons j s =>
          simp only [maxI] at q
          cases z : maxI s with
          | none => rw [z] at q; cases q
          | some u => rw [z] at q; cases q
      subst this
      exact ⟨List.mem_cons_self, fun y hy => by simp at hy; omega⟩
    | some j =>
      rw [q] at h
      obtain ⟨h1, h2⟩ := maxI_spec q
      simp only [Option.some.injEq] at h
      split at h
      · subst h
        exact ⟨List.mem_cons_self, fun y hy => by
          rcases List.mem_cons.mp hy with e | e
          · omega
          · have := h2 y e; omega⟩
      · subst h
        exact ⟨List.mem_cons_of_mem _ h1, fun y hy => by
          rcases List.mem_cons.mp hy with e | e
          · omega
          · exact h2 y e⟩
theorem ins1_perm (i : Int) : ∀ l : List Int, (ins1 i l).Perm (i :: l)
  | [] => .refl _
  | j :: r => by
    simp only [ins1]
    split
    · exact .refl _
    · exact ((ins1_perm i r).cons j).trans (.swap i j r)
theorem srtI_perm : ∀ l : List Int, (srtI l).Perm l
  | [] => .refl _
  | i :: r => (ins1_perm i (srtI r)).trans ((srtI_perm r).cons i)
theorem ins1_sorted (i : Int) : ∀ l : List Int, l.Pairwise (· ≤ ·) → (ins1 i l).Pairwise (· ≤ ·)
  | [], _ => by simp [ins1]
  | j :: r, h => by
    simp only [ins1]
    rw [List.pairwise_cons] at h
    split
    · rename_i hij
      rw [List.pairwise_cons]
      refine ⟨fun y hy => ?_, by rw [List.pairwise_cons]; exact h⟩
      rcases List.mem_cons.mp hy with e | e
      · omega
      · have := h.1 y e; omega
    · rename_i hij
      rw [List.pairwise_cons]
      refine ⟨fun y hy => ?_, ins1_sorted i r h.2⟩
      have := (ins1_perm i r).mem_iff.mp hy
      rcases List.mem_cons.mp this with e | e
      · omega
      · exact h.1 y e
theorem srtI_sorted : ∀ l : List Int, (srtI l).Pairwise (· ≤ ·)
  | [] => .nil
  | i :: r => ins1_sorted i _ (srtI_sorted r)
theorem sorted_unique {l l' : List Int} (h : l'.Perm l) (hs : l'.Pairwise (· ≤ ·)) : l' = srtI l :=
  (h.trans (srtI_perm l).symm).eq_of_pairwise (fun a b _ _ h1 h2 => by omega) hs (srtI_sorted l)

/-- names of built-ins that are not hidden -/
structure BltOk (Z : Wd) : Prop where
  free : ∀ x ∈ (["len", "all", "any", "sum", "max", "abs", "int", "list", "tuple", "sorted", "range", "isinstance", "bool", "str", "dict", "zip", "enumerate"] : List Str), Z.mg x = none

section
variable {Z : Wd} {W : WX} {X : Cx} {k : Nat} {e a b c o : Expr} {es : List Expr} {d da db dc : Sl → Store → R PV} {p pos apos : Pos} {T : Tabs} {call : Calls}
/-- a built-in called with one argument -/
theorem s_b1 {x : Str} {id : String} {r : List V → Hp → VK → Prop} {f : PV → Store → R PV} (C : Cok Z k X W) (B : BltOk Z) (hx : x ∈ (["len", "all", "any", "sum", "max", "abs", "int", "list", "tuple", "sorted", "range", "isinstance", "bool", "str", "dict", "zip", "enumerate"] : List Str))
    (hv : bootBuiltins x = some (.builtin id)) (hg : Gl X x) (hn : x ≠ "__name__") (hdb : (x == ("__debug__" : Str)) = false) (hs : notStar e = true) (hc : CallR X (.builtin id) r) (ha : PE X e (tE Z W da))
    (hr : ∀ (σ : L2.St) (Q : VK) (H : Hp) (bn : Ban) (ads : Ads) (M : Store) (p : PV) (x : V), StoR Z H bn ads M → Rp Z H bn ads p x → EndE Z W σ H bn ads Q (f p M) → r [x] H Q) :
    PE X (.Call (.Name x p) [e] [] pos) (tE Z W fun ρ M => (da ρ M).bind fun v M1 => f v M1) :=
  impE (pe_callB hc hg (by rw [C.mg]; exact B.free x hx) hv (pa_cons ha pa_nil (starEach_cons hs)) hn hdb (starEach_cons hs) rfl) fun σ H Q ⟨bn, ads, M, ρ, st, sl, h⟩ =>
    ⟨bn, ads, M, ρ, st, sl, h.bind.mono fun x H1 ⟨ads1, v, M1, f1, st1, r1, h1⟩ => hr σ Q H1 bn ads1 M1 v x st1 r1 h1⟩
theorem s_t1 {x : Str} {id : String} {r : List V → Hp → VK → Prop} {f : PV → Store → R PV} (C : Cok Z k X W) (B : BltOk Z) (hx : x ∈ (["len", "all", "any", "sum", "max", "abs", "int", "list", "tuple", "sorted", "range", "isinstance", "bool", "str", "dict", "zip", "enumerate"] : List Str))
    (hv : bootBuiltins x = some (.type id)) (hg : Gl X x) (hn : x ≠ "__name__") (hdb : (x == ("__debug__" : Str)) = false) (hs : notStar e = true) (hc : CallR X (.type id) r) (ha : PE X e (tE Z W da))
    (hr : ∀ (σ : L2.St) (Q : VK) (H : Hp) (bn : Ban) (ads : Ads) (M : Store) (p : PV) (x : V), StoR Z H bn ads M → Rp Z H bn ads p x → EndE Z W σ H bn ads Q (f p M) → r [x] H Q) :
    PE X (.Call (.Name x p) [e] [] pos) (tE Z W fun ρ M => (da ρ M).bind fun v M1 => f v M1) :=
  impE (pe_callTy hc hg (by rw [C.mg]; exact B.free x hx) hv (pa_cons ha pa_nil (starEach_cons hs)) hn hdb (starEach_cons hs) rfl) fun σ H Q ⟨bn, ads, M, ρ, st, sl, h⟩ =>
    ⟨bn, ads, M, ρ, st, sl, h.bind.mono fun x H1 ⟨ads1, v, M1, f1, st1, r1, h1⟩ => hr σ Q H1 bn ads1 M1 v x st1 r1 h1⟩
/-- a list, of data or of the store -/
theorem Rp.thawL {H : Hp} {bn : Ban} {ads : Ads} {M : Store} {v : PV} {x : V} {xs : List PV} (st : StoR Z H bn ads M) (r : Rp Z H bn ads v x) (h : thaw v M = .lst xs) : ∃ a vs, x = .ref a ∧ H a = some (.lst vs) ∧ RpL Z H bn ads xs vs := by
  cases v with
  | lst ys => simp only [thaw] at h; cases h; exact r.lst
  | loc n =>
    simp only [thaw] at h
    cases q : (M[n]? : Option MO) with
    | none => rw [q] at h; cases h
    | some mo =>
      rw [q] at h
      cases mo with
      | lst ys =>
        cases h
        obtain ⟨a, ex, _, vs, hv, rv⟩ := st.obj r q (by intro z; cases z)
        exact ⟨a, vs, ex, hv, rv⟩
      | _ => cases h
  | _ => simp [thaw] at h
abbrev bltNames : List Str := ["len", "all", "any", "sum", "max", "abs", "int", "list", "tuple", "sorted", "range", "isinstance", "bool", "str", "dict", "zip", "enumerate"]
theorem s_len (C : Cok Z k X W) (B : BltOk Z) (hg : Gl X "len") (hs : notStar e = true) (ha : PE X e (tE Z W da)) : PE X (.Call (.Name "len" p) [e] [] pos) (tE Z W fun ρ M => (da ρ M).bind fun v M1 => bltV .len [v] M1) := by
  refine s_b1 C B (by decide +kernel) boot_len hg (by decide +kernel) (by decide +kernel) hs ((call_len.or call_lenD).or call_lenN) ha fun σ Q H bn ads M p x st r h => ?_
  rw [C.prog, C.w, C.K]
  have seq : ∀ {a : Addr} {n m : Nat}, x = .ref a → ((∃ xs, SqL Z.K H a xs ∧ n = xs.length) ∨ ∃ xs, SqT Z.K H a xs ∧ n = xs.length) → m = n → EndE Z W σ H bn ads Q (.ok (.int m) M) → ((∃ x' n, [x] = [x'] ∧ LenV Z.K x' H n ∧ Q (.int n) H) ∨ (∃ a kvs, [x] = [V.ref a] ∧ H a = some (.dK kvs) ∧ Q (.int kvs.length) H)) ∨ (∃ (a : Addr) (es : List (NestedKey × Addr × Value)), [x] = [.ref a] ∧ IsDN H Z.P Z.w a es ∧ KsOk Z.K H es ∧ Q (.int es.length) H) := by
    intro a n m e1 e2 e3 e4
    subst e3
    refine .inl (.inl ⟨x, m, rfl, ?_, EndE.now e4 st rp_int⟩)
    rw [e1]; exact e2
  cases p with
  | tup xs =>
    obtain ⟨a, vs, e1, k1, l1⟩ := r.tup
    exact seq e1 (.inr ⟨vs, k1, rfl⟩) l1.length h
  | lst xs =>
    obtain ⟨a, vs, e1, k1, l1⟩ := r.lst
    exact seq e1 (.inl ⟨vs, .inl (.inl k1), rfl⟩) l1.length h
  | rol xs =>
    obtain ⟨a, vs, e1, k1, l1⟩ := r.rol
    exact seq e1 (.inl ⟨vs, k1, rfl⟩) l1.length h
  | str y =>
    simp only [bltV, thaw] at h
    split at h
    · rename_i hl
      refine .inl (.inl ⟨x, y.length, rfl, ?_, EndE.now h st rp_int⟩)
      rw [r.str]; exact ⟨most_le hl, rfl⟩
    · exact h.elim
  | dct t ks ws =>
    simp only [bltV, thaw] at h
    cases t with
    | true =>
      simp only [Rp] at r
      obtain ⟨a1, xs, vs, e1, _, k1, ko, n1, l1, l2, l3⟩ := r
      have d : DctN Z H bn ads xs ks ws := ⟨ko, n1, l1, vs, l2, l3⟩
      refine .inr ⟨a1, xs, by rw [e1], k1, d.ks, ?_⟩
      rw [d.len.1]; exact EndE.now h st rp_int
    | false =>
      simp only [Rp] at r
      obtain ⟨a1, kvs, e1, _, k1, ek, l2⟩ := r
      refine .inl (.inr ⟨a1, kvs, by rw [e1], k1, ?_⟩)
      subst ek
      rw [List.length_map] at h
      exact EndE.now h st rp_int
  | loc n =>
    simp only [bltV, thaw] at h
    cases q : (M[n]? : Option MO) with
    | none => simp only [q] at h; exact h.elim
    | some mo =>
      simp only [q] at h
      cases mo with
      | lst xs =>
        obtain ⟨a, ex, _, vs, hv, rv⟩ := st.obj r q (by intro z; cases z)
        exact seq ex (.inl ⟨vs, .inl (.inl hv), rfl⟩) rv.length h
      | dct t ks ws =>
        simp only [q] at h
        cases t with
        | true =>
          obtain ⟨a1, e1, _, xs, vs, k1, ko, n1, l1, l2, l3⟩ := st.obj r q (by intro z; cases z)
          have d : DctN Z H bn ads xs ks ws := ⟨ko, n1, l1, vs, l2, l3⟩
          refine .inr ⟨a1, xs, by rw [e1], k1, d.ks, ?_⟩
          rw [d.len.1]; exact EndE.now h st rp_int
        | false =>
          obtain ⟨a1, e1, _, kvs, k1, ek, l2⟩ := st.obj r q (by intro z; cases z)
          refine .inl (.inr ⟨a1, kvs, by rw [e1], k1, ?_⟩)
          subst ek
          rw [List.length_map] at h
          exact EndE.now h st rp_int
      | ins c ks ws => simp only [q] at h; exact h.elim
      | dead => simp only [q] at h; exact h.elim
  | _ => exact h.elim
theorem s_all (C : Cok Z k X W) (B : BltOk Z) (hg : Gl X "all") (hs : notStar e = true) (ha : PE X e (tE Z W da)) : PE X (.Call (.Name "all" p) [e] [] pos) (tE Z W fun ρ M => (da ρ M).bind fun v M1 => bltV .all [v] M1) := by
  refine s_b1 C B (by decide +kernel) (by decide +kernel) hg (by decide +kernel) (by decide +kernel) hs (cr_all C.calm) ha fun σ Q H bn ads M p x st r h => ?_
  rw [C.K]
  cases p with
  | lst xs =>
    obtain ⟨a, vs, e1, k1, l1⟩ := r.lst
    simp only [bltV] at h
    split at h
    · rename_i bs e2
      refine ⟨a, bs, by rw [e1], ?_, EndE.now h st rp_bl⟩
      rw [← bools_rp l1 e2]; exact .inl (.inl k1)
    · exact h.elim
  | _ => exact h.elim
theorem s_any (C : Cok Z k X W) (B : BltOk Z) (hg : Gl X "any") (hs : notStar e = true) (ha : PE X e (tE Z W da)) : PE X (.Call (.Name "any" p) [e] [] pos) (tE Z W fun ρ M => (da ρ M).bind fun v M1 => bltV .any [v] M1) := by
  refine s_b1 C B (by decide +kernel) (by decide +kernel) hg (by decide +kernel) (by decide +kernel) hs (cr_any C.calm) ha fun σ Q H bn ads M p x st r h => ?_
  rw [C.K]
  cases p with
  | lst xs =>
    obtain ⟨a, vs, e1, k1, l1⟩ := r.lst
    simp only [bltV] at h
    split at h
    · rename_i bs e2
      refine ⟨a, bs, by rw [e1], ?_, EndE.now h st rp_bl⟩
      rw [← bools_rp l1 e2]; exact .inl (.inl k1)
    · exact h.elim
  | _ => exact h.elim
theorem s_sum (C : Cok Z k X W) (B : BltOk Z) (hg : Gl X "sum") (hs : notStar e = true) (ha : PE X e (tE Z W da)) : PE X (.Call (.Name "sum" p) [e] [] pos) (tE Z W fun ρ M => (da ρ M).bind fun v M1 => bltV .sum [v] M1) := by
  refine s_b1 C B (by decide +kernel) (by decide +kernel) hg (by decide +kernel) (by decide +kernel) hs (cr_sum C.calm) ha fun σ Q H bn ads M p x st r h => ?_
  rw [C.K]
  cases p with
  | lst xs =>
    obtain ⟨a, vs, e1, k1, l1⟩ := r.lst
    simp only [bltV] at h
    split at h
    · rename_i bs e2
      refine ⟨a, bs, by rw [e1], ?_, EndE.now h st rp_int⟩
      rw [← ints_rp l1 e2]; exact .inl (.inl k1)
    · exact h.elim
  | _ => exact h.elim
theorem s_max (C : Cok Z k X W) (B : BltOk Z) (hg : Gl X "max") (hs : notStar e = true) (ha : PE X e (tE Z W da)) : PE X (.Call (.Name "max" p) [e] [] pos) (tE Z W fun ρ M => (da ρ M).bind fun v M1 => bltV .max [v] M1) := by
  refine s_b1 C B (by decide +kernel) (by decide +kernel) hg (by decide +kernel) (by decide +kernel) hs (cr_max C.calm) ha fun σ Q H bn ads M p x st r h => ?_
  rw [C.K]
  cases p with
  | lst xs =>
    obtain ⟨a, vs, e1, k1, l1⟩ := r.lst
    simp only [bltV] at h
    split at h
    · rename_i m e2
      obtain ⟨ns, e3, e4⟩ := Option.bind_eq_some_iff.mp e2
      obtain ⟨m1, m2⟩ := maxI_spec e4
      refine ⟨a, ns, by rw [e1], by rw [← ints_rp l1 e3]; exact .inl (.inl k1), List.length_pos_of_mem m1, fun m' h1 h2 => ?_⟩
      have : m' = m := by
        have := h2 m m1
        have := m2 m' h1
        omega
      subst this
      exact EndE.now h st rp_int
    · exact h.elim
  | _ => exact h.elim
theorem s_abs (C : Cok Z k X W) (B : BltOk Z) (hg : Gl X "abs") (hs : notStar e = true) (ha : PE X e (tE Z W da)) : PE X (.Call (.Name "abs" p) [e] [] pos) (tE Z W fun ρ M => (da ρ M).bind fun v M1 => bltV .abs [v] M1) := by
  refine s_b1 C B (by decide +kernel) (by decide +kernel) hg (by decide +kernel) (by decide +kernel) hs call_abs ha fun σ Q H bn ads M p x st r h => ?_
  cases p with
  | int i => exact ⟨i, by rw [r.int], EndE.now h st rp_int⟩
  | _ => exact h.elim
theorem s_intI (C : Cok Z k X W) (B : BltOk Z) (hg : Gl X "int") (hs : notStar e = true) (ha : PE X e (tE Z W da)) : PE X (.Call (.Name "int" p) [e] [] pos) (tE Z W fun ρ M => (da ρ M).bind fun v M1 => bltV .intI [v] M1) := by
  refine s_t1 C B (by decide +kernel) (by decide +kernel) hg (by decide +kernel) (by decide +kernel) hs call_int1 ha fun σ Q H bn ads M p x st r h => ?_
  cases p with
  | int i => exact .inl ⟨i, by rw [r.int], EndE.now h st rp_int⟩
  | _ => exact h.elim
theorem s_tupl (C : Cok Z k X W) (B : BltOk Z) (hg : Gl X "tuple") (hs : notStar e = true) (ha : PE X e (tE Z W da)) : PE X (.Call (.Name "tuple" p) [e] [] pos) (tE Z W fun ρ M => (da ρ M).bind fun v M1 => bltV .tupl [v] M1) := by
  refine s_t1 C B (by decide +kernel) (by decide +kernel) hg (by decide +kernel) (by decide +kernel) hs call_tuple_of ha fun σ Q H bn ads M p x st r h => ?_
  rw [C.K]
  simp only [bltV] at h
  cases q : thaw p M with
  | lst xs =>
    rw [q] at h
    obtain ⟨a, vs, e1, k1, l1⟩ := r.thawL st q
    exact ⟨a, vs, by rw [e1], .inl ⟨.inl (.inl k1), fun l hl => EndE.newTup h st l1 hl⟩⟩
  | tup xs =>
    rw [q] at h
    have : p = .tup xs := by
      cases p with
      | tup ys => simpa only [thaw] using q
      | loc n =>
        simp only [thaw] at q
        cases z : (M[n]? : Option MO) with
        | none => rw [z] at q; cases q
        | some mo => rw [z] at q; cases mo <;> cases q
      | _ => simp [thaw] at q
    subst this
    obtain ⟨a, vs, e1, k1, l1⟩ := r.tup
    exact ⟨a, vs, by rw [e1], .inr ⟨k1, EndE.now h st (by rw [e1] at r; exact r)⟩⟩
  | _ => rw [q] at h; exact h.elim
theorem s_srt (C : Cok Z k X W) (B : BltOk Z) (hg : Gl X "sorted") (hs : notStar e = true) (ha : PE X e (tE Z W da)) : PE X (.Call (.Name "sorted" p) [e] [] pos) (tE Z W fun ρ M => (da ρ M).bind fun v M1 => bltV .srt [v] M1) := by
  refine s_b1 C B (by decide +kernel) (by decide +kernel) hg (by decide +kernel) (by decide +kernel) hs (cr_sorted.or cr_sortTI) ha fun σ Q H bn ads M p x st r h => ?_
  rw [C.K]
  have fin : ∀ {ns : List Int}, EndE Z W σ H bn ads Q (.ok (.lst ((srtI ns).map PV.int)) M) → ∀ (ns' : List Int) (p : Addr), ns'.Perm ns → ns'.Pairwise (· ≤ ·) → H p = none → Q (.ref p) (upd H p (.lst (ns'.map V.int))) := by
    intro ns he ns' p' hp hs hn
    have := sorted_unique hp hs
    subst this
    exact EndE.newLst he st (rp_ints _) hn
  cases p with
  | lst xs =>
    obtain ⟨a, vs, e1, k1, l1⟩ := r.lst
    simp only [bltV, seqV] at h
    split at h
    · rename_i ns e2
      split at h
      · rename_i hl
        exact .inl ⟨a, ns, by rw [e1], by rw [← ints_rp l1 e2]; exact .inl (.inl k1), hl, fin h⟩
      · exact h.elim
    · exact h.elim
  | tup xs =>
    obtain ⟨a, vs, e1, k1, l1⟩ := r.tup
    simp only [bltV, seqV] at h
    split at h
    · rename_i ns e2
      split at h
      · rename_i hl
        exact .inr ⟨a, ns, by rw [e1], by rw [← ints_rp l1 e2]; exact k1, hl, fin h⟩
      · exact h.elim
    · exact h.elim
  | _ => exact h.elim
theorem rangeL_rp {H : Hp} {bn : Ban} {ads : Ads} (i : Int) : ∀ n : Nat, RpL Z H bn ads (rangeL i n) ((List.range n).map fun j => V.int (i + (j : Nat)))
  | 0 => RpL.nil
  | n + 1 => by
    rw [List.range_succ_eq_map, List.map_cons, List.map_map]
    refine RpL.cons (by simp [Rp]) ?_
    have ih := rangeL_rp (H := H) (bn := bn) (ads := ads) (i + 1) n
    have e : (fun j : Nat => V.int (i + 1 + (j : Nat))) = ((fun j : Nat => V.int (i + (j : Nat))) ∘ Nat.succ) := by
      funext j; simp only [Function.comp]; congr 1; omega
    rw [e] at ih
    exact ih
/-- list(range(n)) -/
theorem s_lrng {p2 pos2 : Pos} (C : Cok Z k X W) (B : BltOk Z) (hg : Gl X "list") (hg2 : Gl X "range") (hs : notStar e = true) (ha : PE X e (tE Z W da)) :
    PE X (.Call (.Name "list" p) [.Call (.Name "range" p2) [e] [] pos2] [] pos) (tE Z W fun ρ M => (da ρ M).bind fun v M1 => bltV .lrng [v] M1) :=
  impE (pe_listRg C.calm hg (by rw [C.mg]; exact B.free _ (by decide +kernel)) (prg_1 hg2 (by rw [C.mg]; exact B.free _ (by decide +kernel)) ha (starEach_cons hs)) rfl) fun σ H Q ⟨bn, ads, M, ρ, st, sl, h⟩ =>
    ⟨bn, ads, M, ρ, st, sl, h.bind.mono fun x H1 ⟨ads1, v, M1, f1, st1, r1, h1⟩ => by
      cases v with
      | int j =>
        simp only [bltV] at h1
        split at h1
        · rename_i hj
          simp only [Bool.and_eq_true, decide_eq_true_eq] at hj
          refine ⟨j, r1.int, ⟨by omega, by omega, by omega, by omega, by omega⟩, fun q hq => ?_⟩
          have e : rgV 0 j = (List.range j.toNat).map fun i => V.int (0 + (i : Nat)) := by unfold rgV; rw [Int.sub_zero]
          rw [e]
          exact EndE.newLst h1 st1 (rangeL_rp 0 _) hq
        · exact h1.elim
      | _ => exact h1.elim⟩
end
end Zk
-- Zk13
set_option maxHeartbeats 4000000
namespace Zk
open PySem PySem.Spec L2

section
variable {X : Cx}
/-- the keys of a dict of tuples, as entries -/
theorem dn_raw {pins : List (Addr × Obj)} {σ : L2.St} {H : Hp} {s : Shared} (I : Inv X pins σ H s) {a : Addr} {xs : List (NestedKey × Addr × Value)} (h : IsDN H X.prog X.w a xs) :
    (a == sysModules) = false ∧ xs.length ≤ sizeLine ∧ ∃ es ep, s.heap.DictRaw a es ep ∧ es.toList = xs.map (entryOfKey (nestedKind X.prog X.w)) := by
  obtain ⟨o, h⟩ := h
  obtain ⟨⟨h1, h2, h3, h4, ⟨es, ep, h5, h6⟩, h7⟩, _, _⟩ := I.hok a _ h
  exact ⟨h1, h2, es, ep, ⟨o, h3, h4, h5⟩, h6⟩
theorem call_listN (hc : X.calm = true) : CallR X (.type "list") (fun vs H Q => ∃ (a : Addr) (xs : List (NestedKey × Addr × Value)), vs = [.ref a] ∧ IsDN H X.prog X.w a xs ∧ ∀ q, H q = none → Q (.ref q) (upd H q (.lst (xs.map fun x => V.ref x.2.1)))) := by
  intro pins s σ H vs us Q I r h
  obtain ⟨a, xs, rfl, hd, q⟩ := h
  cases r with
  | cons r1 r2 =>
    cases r1
    cases r2
    obtain ⟨z1, z2, es, ep, hr, he⟩ := dn_raw I hd
    have hlen : es.size = xs.length := by rw [← Array.length_toList, he, List.length_map]
    refine PySem.W.kdl_call (KdlSrc.rawDict (es := es) (ep := ep) z1) (I.ok.hd hc) hr (by rw [hlen]; exact z2) fun h' tk acc' c' hkeep hS hacc => ?_
    refine ⟨.ref s.heap.objs.size, upd H s.heap.objs.size (.lst (xs.map fun x => V.ref x.2.1)), I.laid hkeep (Nat.le_refl _) (show ObjOk X.prog X.w _ _ _ (.lst (xs.map fun x => V.ref x.2.1)) from ⟨by rw [List.length_map]; exact z2, acc'.toList, c', ?_, by rw [Array.toArray_toList]; exact hS⟩), rfl, q _ (I.hok.fresh (Nat.le_refl _))⟩
    have e1 : acc'.toList = xs.map fun x => Value.ref x.2.1 := by
      apply List.ext_getElem?
      intro i
      rw [List.getElem?_map, Array.getElem?_toList]
      rcases Nat.lt_or_ge i xs.length with hi | hi
      · have hi2 : i < acc'.size := by rw [hacc.1, hlen]; exact hi
        have e2 : acc'[i]? = some acc'[i] := Array.getElem?_eq_getElem hi2
        obtain ⟨hj, e3⟩ := hacc.2 i acc'[i] e2
        rw [e2, e3, List.getElem?_eq_getElem hi]
        have e4 : es[i] = entryOfKey (nestedKind X.prog X.w) xs[i] := by
          have : es.toList[i]? = some (entryOfKey (nestedKind X.prog X.w) xs[i]) := by rw [he, List.getElem?_map, List.getElem?_eq_getElem hi]; rfl
          rw [Array.getElem?_toList, Array.getElem?_eq_getElem hj] at this
          exact Option.some.inj this
        rw [e4]
        rfl
      · rw [Array.getElem?_eq_none (by rw [hacc.1, hlen]; exact hi), List.getElem?_eq_none hi]
        rfl
    rw [e1]
    clear e1 hacc hS hkeep he hr hlen z2 hd q
    induction xs with
    | nil => exact .nil
    | cons y ys ih => exact .cons rfl ih
end
section
variable {Z : Wd} {W : WX} {X : Cx} {k : Nat} {e a b c o : Expr} {es : List Expr} {d da db dc : Sl → Store → R PV} {p pos apos : Pos} {T : Tabs} {call : Calls}
theorem thaw_tup {p : PV} {M : Store} {xs : List PV} (q : thaw p M = .tup xs) : p = .tup xs := by
  cases p with
  | tup ys => simpa only [thaw] using q
  | loc n =>
    simp only [thaw] at q
    cases z : (M[n]? : Option MO) with
    | none => rw [z] at q; cases q
    | some mo => rw [z] at q; cases mo <;> cases q
  | _ => simp [thaw] at q
theorem thaw_dct {p : PV} {M : Store} {t : Bool} {ks vs : List PV} (q : thaw p M = .dct t ks vs) : p = .dct t ks vs := by
  cases p with
  | dct t' ks' vs' => simpa only [thaw] using q
  | loc n =>
    simp only [thaw] at q
    cases z : (M[n]? : Option MO) with
    | none => rw [z] at q; cases q
    | some mo => rw [z] at q; cases mo <;> cases q
  | _ => simp [thaw] at q
theorem thaw_loc {p : PV} {M : Store} {n : Nat} (q : thaw p M = .loc n) : p = .loc n := by
  cases p with
  | loc m =>
    simp only [thaw] at q
    cases z : (M[m]? : Option MO) with
    | none => rw [z] at q; exact q
    | some mo => rw [z] at q; cases mo <;> first | exact q | cases q
  | _ => simp [thaw] at q
theorem kP_rp {H : Hp} {bn : Ban} {ads : Ads} : ∀ kvs : List (Key × V), RpL Z H bn ads (kvs.map fun p => kP p.1) (kvs.map fun p => kV p.1)
  | [] => RpL.nil
  | (k, v) :: kvs => RpL.cons (by cases k <;> simp [kP, kV, Rp]) (kP_rp kvs)
theorem s_lstF (m : Bool) (C : Cok Z k X W) (B : BltOk Z) (hg : Gl X "list") (hs : notStar e = true) (ha : PE X e (tE Z W da)) : PE X (.Call (.Name "list" p) [e] [] pos) (tE Z W fun ρ M => (da ρ M).bind fun v M1 => bltV (if m then .lstM else .lstF) [v] M1) := by
  refine s_t1 C B (by decide +kernel) (by decide +kernel) hg (by decide +kernel) (by decide +kernel) hs ((call_list_of.or (call_list_dK C.calm)).or (call_listN C.calm)) ha fun σ Q H bn ads M p x st r h => ?_
  rw [C.prog, C.w, C.K]
  have fin : ∀ {ps : List PV} {vs : List V} {q : Addr}, RpL Z H bn ads ps vs → H q = none → EndE Z W σ H bn ads Q (if m then .ok (.loc M.length) (M ++ [.lst ps]) else .ok (.lst ps) M) → Q (.ref q) (upd H q (.lst vs)) := by
    intro ps vs q hr hq he
    cases m with
    | true => exact EndE.newM he st hr hq
    | false => exact EndE.newLst he st hr hq
  have seqs : ∀ {a : Addr} {ps : List PV} {vs : List V}, x = .ref a → (SqL Z.K H a vs ∨ SqT Z.K H a vs) → RpL Z H bn ads ps vs → EndE Z W σ H bn ads Q (if m then .ok (.loc M.length) (M ++ [.lst ps]) else .ok (.lst ps) M) →
      ((∃ p ys, [x] = [.ref p] ∧ (SqL Z.K H p ys ∨ SqT Z.K H p ys) ∧ ∀ l, H l = none → Q (.ref l) (upd H l (.lst ys))) ∨ rListD [x] H Q) ∨ (∃ (a : Addr) (xs : List (NestedKey × Addr × Value)), [x] = [.ref a] ∧ IsDN H Z.P Z.w a xs ∧ ∀ q, H q = none → Q (.ref q) (upd H q (.lst (xs.map fun x => V.ref x.2.1)))) := by
    intro a ps vs e1 e2 e3 e4
    exact .inl (.inl ⟨a, vs, by rw [e1], e2, fun l hl => fin e3 hl e4⟩)
  have hb : bltV (if m then .lstM else .lstF) [p] M = (match thaw p M with
    | .tup xs => if m then .ok (.loc M.length) (M ++ [.lst xs]) else .ok (.lst xs) M
    | .lst xs => if m then .ok (.loc M.length) (M ++ [.lst xs]) else .ok (.lst xs) M
    | .dct _ ks _ => if m then .ok (.loc M.length) (M ++ [.lst ks]) else .ok (.lst ks) M
    | .loc n => if m then .bad else (match (M[n]? : Option MO) with
      | some (.dct _ ks _) => .ok (.lst ks) M
      | _ => .bad)
    | _ => .bad) := by
    cases m <;> simp only [bltV, if_true, if_false, Bool.false_eq_true] <;> (generalize thaw p M = t; cases t <;> rfl)
  rw [hb] at h
  clear hb
  cases q : thaw p M with
  | tup xs =>
    rw [q] at h
    have := thaw_tup q
    subst this
    obtain ⟨a, vs, e1, k1, l1⟩ := r.tup
    exact seqs e1 (.inr k1) l1 h
  | lst xs =>
    rw [q] at h
    obtain ⟨a, vs, e1, k1, l1⟩ := r.thawL st q
    exact seqs e1 (.inl (.inl (.inl k1))) l1 h
  | dct t ks ws =>
    rw [q] at h
    have := thaw_dct q
    subst this
    cases t with
    | true =>
      simp only [Rp] at r
      obtain ⟨a1, xs, vs, e1, _, k1, ko, n1, l1, l2, l3⟩ := r
      exact .inr ⟨a1, xs, by rw [e1], k1, fun q hq => fin l1 hq h⟩
    | false =>
      simp only [Rp] at r
      obtain ⟨a1, kvs, e1, _, k1, ek, l2⟩ := r
      subst ek
      exact .inl (.inr ⟨a1, kvs, by rw [e1], k1, fun q hq => fin (kP_rp kvs) hq h⟩)
  | loc n =>
    rw [q] at h
    have := thaw_loc q
    subst this
    cases m with
    | true => exact h.elim
    | false =>
      simp only [Bool.false_eq_true, if_false] at h
      cases z : (M[n]? : Option MO) with
      | none => rw [z] at h; exact h.elim
      | some mo =>
        rw [z] at h
        cases mo with
        | dct t ks ws =>
          cases t with
          | true =>
            obtain ⟨a1, e1, _, xs, vs, k1, ko, n1, l1, l2, l3⟩ := st.obj r z (by intro z; cases z)
            exact .inr ⟨a1, xs, by rw [e1], k1, fun q hq => fin l1 hq h⟩
          | false =>
            obtain ⟨a1, e1, _, kvs, k1, ek, l2⟩ := st.obj r z (by intro z; cases z)
            subst ek
            exact .inl (.inr ⟨a1, kvs, by rw [e1], k1, fun q hq => fin (kP_rp kvs) hq h⟩)
        | lst xs => exact h.elim
        | ins c ks ws => exact h.elim
        | dead => exact h.elim
  | _ => rw [q] at h; exact h.elim
theorem hfew_of {n : Nat} (hs : noStars es = true) (hn : es.length < 30) : ((backTo pos (starEach es X.env)).all (fun x => !x.1) && (backToKw pos (keywordEach [] X.env)).all (fun x => x.1.isSome) && decide (es.length + ([] : List Keyword).length + (if ([] : List Keyword).isEmpty then 0 else 1) < 30)) = true := by
  have e1 : (backTo pos (starEach es X.env)).all (fun x => !x.1) = true := by
    have := any_stars (pos := pos) (env := X.env) hs
    rw [List.all_eq_not_any_not]
    simpa using this
  rw [e1]
  show (true && true && decide (es.length + 0 + 0 < 30)) = true
  simpa using hn
theorem tyV_list {H : Hp} {bn : Ban} {ads : Ads} {M : Store} {v : PV} {x : V} (st : StoR Z H bn ads M) (r : Rp Z H bn ads v x) (h : (match thaw v M with | .lst _ => true | _ => false) = true) : tyV Z.K "list" x H := by
  cases q : thaw v M with
  | lst xs =>
    obtain ⟨a, vs, e1, k1, l1⟩ := r.thawL st q
    rw [e1]
    exact .inl ⟨rfl, vs, .inl (.inl k1)⟩
  | _ => rw [q] at h; cases h
/-- a method of a list with one argument -/
theorem s_bm1 (bm : BMt) {nm : Str} {id : String} {r : V → List V → Hp → VK → Prop} (C : Cok Z k X W) (hbm : ∀ v M, bmOk bm v M = (match thaw v M with | .lst _ => true | _ => false)) (slot : Slot "list" nm id) (hty : typeOf (.builtin id) = pure (.type "method_descriptor")) (hm : MtR X id r)
    (hb : attributeBase o nm X.env (eval o X.env) = eval o X.env) (hl : (apos.endLine == pos.line) = true) (hs : notStar e = true) (ho : PE X o (tE Z W db)) (ha : PE X e (tE Z W da))
    (hr : ∀ (σ : L2.St) (Q : VK) (H : Hp) (bn : Ban) (ads : Ads) (M : Store) (p q : PV) (x y : V), StoR Z H bn ads M → Rp Z H bn ads p x → Rp Z H bn ads q y → EndE Z W σ H bn ads Q (bmV bm p [q] M) → r x [y] H Q) :
    PE X (.Call (.Attribute o nm apos) [e] [] pos) (tE Z W fun ρ M => (db ρ M).bind fun x M1 => if bmOk bm x M1 then (da ρ M1).bind fun y M2 => bmV bm x [y] M2 else .bad) := by
  have hs' : noStars [e] = true := by simp [noStars, hs]
  refine impE (pe_bm PySem.F.plainAttrs_list slot hty hm ho (pa_cons ha pa_nil (starEach_cons hs)) hb (hfew_of (n := 0) hs' (by simp)) hl (starEach_cons hs) rfl) ?_
  intro σ H Q ⟨bn, ads, M, ρ, st, sl, h⟩
  refine ⟨bn, ads, M, ρ, st, sl, h.bind.mono fun x H1 ⟨ads1, v, M1, f1, st1, r1, h1⟩ => ?_⟩
  split at h1
  · rename_i hk
    rw [hbm] at hk
    refine ⟨by rw [C.K]; exact tyV_list st1 r1 hk, bn, ads1, M1, ρ, st1, sl.aft f1, h1.bind.mono fun y H2 ⟨ads2, w, M2, f2, st2, r2, h2⟩ => hr σ Q H2 bn ads2 M2 v w x y st2 (Rp.aft f2 _ _ r1) r2 h2⟩
  · exact h1.elim
/-- the same where the list is changed -/
theorem MtM.r {id : String} {r : V → List V → Hp → VK → Prop} (h : MtM X id r) : MtR X id r := h
theorem s_append (C : Cok Z k X W) (hb : attributeBase o "append" X.env (eval o X.env) = eval o X.env) (hl : (apos.endLine == pos.line) = true) (hs : notStar e = true) (ho : PE X o (tE Z W db)) (ha : PE X e (tE Z W da)) :
    PE X (.Call (.Attribute o "append" apos) [e] [] pos) (tE Z W fun ρ M => (db ρ M).bind fun x M1 => if bmOk .append x M1 then (da ρ M1).bind fun y M2 => bmV .append x [y] M2 else .bad) :=
  s_bm1 .append C (fun _ _ => rfl) PySem.F.slot_list_append PySem.F.type_list_append mt_append hb hl hs ho ha fun σ Q H bn ads M p q x y st r1 r2 h => by
    cases p with
    | loc n =>
      simp only [bmV] at h
      cases z : (M[n]? : Option MO) with
      | none => rw [z] at h; exact h.elim
      | some mo =>
        rw [z] at h
        cases mo with
        | lst xs =>
          simp only at h
          split at h
          · rename_i hlen
            obtain ⟨a, ex, ea, vs, hv, rv⟩ := st.obj r1 z (by intro z; cases z)
            refine ⟨a, vs, y, ex, rfl, hv, by rw [← rv.length, sizeLine_eq]; unfold mostLen at hlen; omega, ?_⟩
            exact h _ ads .non (Aft.write (ads_mem ea)) (st.write ea ⟨vs ++ [y], upd_same, RpL.aft (Aft.write (ads_mem ea)) _ _ (RpL.append rv (RpL.cons r2 RpL.nil))⟩) rp_non
          · exact h.elim
        | dct t ks ws => exact h.elim
        | ins c ks ws => exact h.elim
        | dead => exact h.elim
    | _ => exact h.elim
theorem s_pop0 (C : Cok Z k X W) (hb : attributeBase o "pop" X.env (eval o X.env) = eval o X.env) (hl : (apos.endLine == pos.line) = true) (hs : notStar e = true) (ho : PE X o (tE Z W db)) (ha : PE X e (tE Z W da)) :
    PE X (.Call (.Attribute o "pop" apos) [e] [] pos) (tE Z W fun ρ M => (db ρ M).bind fun x M1 => if bmOk .popAt x M1 then (da ρ M1).bind fun y M2 => bmV .popAt x [y] M2 else .bad) :=
  s_bm1 .popAt C (fun _ _ => rfl) PySem.F.slot_list_pop PySem.F.type_list_pop mt_popAt hb hl hs ho ha fun σ Q H bn ads M p q x y st r1 r2 h => by
    cases p with
    | loc n =>
      cases q with
      | int i =>
        simp only [bmV] at h
        split at h
        · rename_i hi
          subst hi
          split at h
          · rename_i x0 xs z
            obtain ⟨a, ex, ea, vs, hv, rv⟩ := st.obj r1 z (by intro z; cases z)
            obtain ⟨v0, us, e1, q1, q2⟩ := rv.cons_inv
            subst e1
            refine ⟨a, v0 :: us, 0, 0, v0, ex, by rw [r2.int], hv, by decide, by decide, ?_, rfl, ?_⟩
            · simp [seqIndex?]
            · exact h _ ads v0 (Aft.write (ads_mem ea)) (st.write ea ⟨us, upd_same, RpL.aft (Aft.write (ads_mem ea)) _ _ q2⟩) (Rp.aft (Aft.write (ads_mem ea)) _ _ q1)
          · exact h.elim
        · exact h.elim
      | _ => exact h.elim
    | _ => cases q <;> exact h.elim
theorem s_index (C : Cok Z k X W) (hb : attributeBase o "index" X.env (eval o X.env) = eval o X.env) (hl : (apos.endLine == pos.line) = true) (hs : notStar e = true) (ho : PE X o (tE Z W db)) (ha : PE X e (tE Z W da)) :
    PE X (.Call (.Attribute o "index" apos) [e] [] pos) (tE Z W fun ρ M => (db ρ M).bind fun x M1 => if bmOk .index x M1 then (da ρ M1).bind fun y M2 => bmV .index x [y] M2 else .bad) :=
  s_bm1 .index C (fun _ _ => rfl) PySem.F.slot_list_index PySem.F.type_list_index (mt_indexD (units65 C.room)) hb hl hs ho ha fun σ Q H bn ads M p q x y st r1 r2 h => by
    rw [C.K]
    cases p with
    | lst xs =>
      simp only [bmV] at h
      split at h
      · rename_i hsh
        simp only [Bool.and_eq_true] at hsh
        have s1 := hsh.1
        have s2 := hsh.2
        simp only [shp, okD, Bool.and_eq_true] at s1 s2
        split at h
        · rename_i i hi
          obtain ⟨a, vs, e1, k1, l1⟩ := r1.lst
          rw [List.findIdx?_eq_some_iff_getElem] at hi
          obtain ⟨hlt, heq, hno⟩ := hi
          have gD : ∀ (j : Nat) (hj : j < xs.length), (toDL xs)[j]? = some (toD xs[j]) := by
            have : ∀ (l : List PV) (j : Nat) (hj : j < l.length), (toDL l)[j]? = some (toD l[j]) := by
              intro l
              induction l with
              | nil => intro j hj; simp at hj
              | cons y ys ih =>
                intro j hj
                cases j with
                | zero => simp [toDL]
                | succ j => simp only [toDL, List.getElem?_cons_succ, List.getElem_cons_succ]; exact ih j (by simpa using hj)
            exact this xs
          have okx : ∀ (j : Nat) (hj : j < xs.length), okD xs[j] = true := by
            have : ∀ (l : List PV), okDL l = true → ∀ (j : Nat) (hj : j < l.length), okD l[j] = true := by
              intro l
              induction l with
              | nil => intro _ j hj; simp at hj
              | cons y ys ih =>
                intro hl j hj
                simp only [okDL, Bool.and_eq_true] at hl
                cases j with
                | zero => exact hl.1
                | succ j => simp only [List.getElem_cons_succ]; exact ih hl.2 j (by simpa using hj)
            exact this xs s2.1
          refine ⟨a, y, toD q, toDL xs, i, toD xs[i], e1, rfl, by rw [← e1]; exact Rp.dp (.lst xs) x r1 (by simp only [okD]; exact s2.1), Rp.dp q y r2 s1.1, ?_, shaped_toD hsh.1, gD i hlt, by rw [eqv_toD _ _ (okx i hlt) s1.1]; exact heq, fun m z' hm hz => ?_, EndE.now h st rp_int⟩
          · have := shaped_toD hsh.2; simpa only [toD] using this
          · rw [gD m (by omega)] at hz
            cases hz
            rw [eqv_toD _ _ (okx m (by omega)) s1.1]
            have := hno m hm
            simpa using this
        · exact h.elim
      · exact h.elim
    | _ => exact h.elim
end
end Zk
-- Zk14
set_option maxHeartbeats 4000000
namespace Zk
open PySem PySem.Spec L2

def tyN : Nat → String
  | 0 => "bool"
  | 1 => "int"
  | 2 => "str"
  | 3 => "tuple"
  | 4 => "list"
  | _ => "dict"
/-- what isinstance is told of the program's classes -/
structure IsiOk (Z : Wd) (T : Tabs) : Prop where
  cls : ∀ c, T.isi c = true → Cls Z.K (Z.cA c) ∧ PySem.W.findIn Z.K (.ref (Z.cA c)) "__class__" = some (some (.builtin "object.__class__")) ∧ PySem.W.mroIn Z.K (Z.cA c) (.type "object") = some true
  get : PySem.W.specialIn Z.K (.builtin "object.__class__") "__get__" = some (some (.builtin "getset_descriptor.__get__")) ∧ PySem.W.takesIn Z.K (.builtin "object.__class__") = some true
  bc : ∀ (n : String) c, n ∈ ["NoneType", "bool", "int", "str", "tuple", "list", "dict"] → T.isi c = true → PySem.W.kitOne Z.K (.type n) (.ref (Z.cA c)) = some false
  cb : ∀ c k, T.isi c = true → k ≤ 5 → PySem.W.kitOne Z.K (.ref (Z.cA c)) (.type (tyN k)) = some false
  cc : ∀ c c', T.isi c = true → T.isi c' = true → PySem.W.kitOne Z.K (.ref (Z.cA c)) (.ref (Z.cA c')) = some (c' == c)
  gl : ∀ c x, T.isi c = true → T.cnm c = some x → Z.mg x = some (.ref (Z.cA c))

section
variable {Z : Wd} {W : WX} {X : Cx} {k : Nat} {e a b c o : Expr} {es : List Expr} {d da db dc : Sl → Store → R PV} {p pos apos : Pos} {T : Tabs} {call : Calls}
/-- the type of a value -/
inductive TyP (Z : Wd) (T : Tabs) : PV → Store → Value → Prop
  | non {M} : TyP Z T .non M (.type "NoneType")
  | bl {M} (b : Bool) : TyP Z T (.bl b) M (.type "bool")
  | int {M} (i : Int) : TyP Z T (.int i) M (.type "int")
  | str {M} (x : Str) : TyP Z T (.str x) M (.type "str")
  | tup {M} (xs : List PV) : TyP Z T (.tup xs) M (.type "tuple")
  | lst {M} (xs : List PV) : TyP Z T (.lst xs) M (.type "list")
  | dct {M} (ks vs : List PV) : TyP Z T (.dct false ks vs) M (.type "dict")
  | obj {M c ks vs} (h : T.isi c = true) : TyP Z T (.obj c ks vs) M (.ref (Z.cA c))
  | mlst {M : Store} {n xs} (h : M[n]? = some (.lst xs)) : TyP Z T (.loc n) M (.type "list")
  | mdct {M : Store} {n ks vs} (h : M[n]? = some (.dct false ks vs)) : TyP Z T (.loc n) M (.type "dict")
  | mins {M : Store} {n c ks vs} (h : M[n]? = some (.ins c ks vs)) (h' : T.isi c = true) : TyP Z T (.loc n) M (.ref (Z.cA c))
theorem TyP.x (J : IsiOk Z T) {H : Hp} {bn : Ban} {ads : Ads} {M : Store} {v : PV} {x : V} {t : Value} (st : StoR Z H bn ads M) (r : Rp Z H bn ads v x) (h : TyP Z T v M t) : TyX Z.K H x t := by
  have ins : ∀ {a C dx : Addr} {fs : List (Str × V)} {c : Nat}, x = .ref a → H a = some (.ins (Z.cA c) dx fs) → T.isi c = true → TyX Z.K H x (.ref (Z.cA c)) := fun {a C dx fs c} e1 e2 e3 => by
    obtain ⟨h1, h2, h3⟩ := J.cls c e3
    rw [e1]
    exact .base (.ins e2 h1 h2 J.get.1 J.get.2 h3)
  cases h with
  | non => rw [r.non]; exact .base .non
  | bl b => rw [r.bl]; exact .base (.bl b)
  | int b => rw [r.int]; exact .base (.int b)
  | str b => rw [r.str]; exact .base (.str b)
  | tup xs =>
    simp only [Rp] at r
    obtain ⟨a, vs, e1, k1, _⟩ := r
    rw [e1]
    rcases k1 with ⟨_, k1⟩ | ⟨o, its, n, h1, h2, _⟩
    · rcases k1 with k1 | ⟨o, k1⟩
      · exact .base (.tup k1)
      · exact .fTuple k1
    · exact .kTuple h1 h2
  | lst xs =>
    obtain ⟨a, vs, e1, k1, _⟩ := r.lst
    rw [e1]; exact .base (.lst k1)
  | dct ks vs =>
    simp only [Rp] at r
    obtain ⟨a, kvs, e1, _, k1, _⟩ := r
    rw [e1]; exact .base (.dK k1)
  | obj h =>
    simp only [Rp] at r
    obtain ⟨a, dx, fs, e1, _, e2, _⟩ := r
    exact ins (C := 0) e1 e2 h
  | mlst h =>
    obtain ⟨a, ex, _, vs, hv, _⟩ := st.obj r h (by intro z; cases z)
    rw [ex]; exact .base (.lst hv)
  | mdct h =>
    obtain ⟨a, ex, _, kvs, hv, _⟩ := st.obj r h (by intro z; cases z)
    rw [ex]; exact .base (.dK hv)
  | mins h h' =>
    obtain ⟨a, ex, _, dx, fs, hv, _⟩ := st.obj r h (by intro z; cases z)
    exact ins (C := 0) ex hv h'
def tyVal (Z : Wd) : Ty → Value
  | .b k => .type (tyN k)
  | .c c => .ref (Z.cA c)
theorem kitN {K : PySem.W.Frag} : ∀ k, k ≤ 5 → PySem.W.kitOne K (.type "NoneType") (.type (tyN k)) = some false ∧ PySem.W.kitOne K (.type "bool") (.type (tyN k)) = some (k == 0 || k == 1) ∧ PySem.W.kitOne K (.type "int") (.type (tyN k)) = some (k == 1) ∧
    PySem.W.kitOne K (.type "str") (.type (tyN k)) = some (k == 2) ∧ PySem.W.kitOne K (.type "tuple") (.type (tyN k)) = some (k == 3) ∧ PySem.W.kitOne K (.type "list") (.type (tyN k)) = some (k == 4) ∧ PySem.W.kitOne K (.type "dict") (.type (tyN k)) = some (k == 5)
  | 0, _ => ⟨kit_ty (by decide +kernel), kit_ty (by decide +kernel), kit_ty (by decide +kernel), kit_ty (by decide +kernel), kit_ty (by decide +kernel), kit_ty (by decide +kernel), kit_ty (by decide +kernel)⟩
  | 1, _ => ⟨kit_ty (by decide +kernel), kit_ty (by decide +kernel), kit_ty (by decide +kernel), kit_ty (by decide +kernel), kit_ty (by decide +kernel), kit_ty (by decide +kernel), kit_ty (by decide +kernel)⟩
  | 2, _ => ⟨kit_ty (by decide +kernel), kit_ty (by decide +kernel), kit_ty (by decide +kernel), kit_ty (by decide +kernel), kit_ty (by decide +kernel), kit_ty (by decide +kernel), kit_ty (by decide +kernel)⟩
  | 3, _ => ⟨kit_ty (by decide +kernel), kit_ty (by decide +kernel), kit_ty (by decide +kernel), kit_ty (by decide +kernel), kit_ty (by decide +kernel), kit_ty (by decide +kernel), kit_ty (by decide +kernel)⟩
  | 4, _ => ⟨kit_ty (by decide +kernel), kit_ty (by decide +kernel), kit_ty (by decide +kernel), kit_ty (by decide +kernel), kit_ty (by decide +kernel), kit_ty (by decide +kernel), kit_ty (by decide +kernel)⟩
  | 5, _ => ⟨kit_ty (by decide +kernel), kit_ty (by decide +kernel), kit_ty (by decide +kernel), kit_ty (by decide +kernel), kit_ty (by decide +kernel), kit_ty (by decide +kernel), kit_ty (by decide +kernel)⟩
  | n + 6, h => by omega
theorem tyOk_spec (J : IsiOk Z T) {v : PV} {M : Store} {ty : Ty} {u : Bool} (h : tyOk T v M ty = some u) : ∃ t, TyP Z T v M t ∧ PySem.W.kitOne Z.K t (tyVal Z ty) = some u := by
  cases ty with
  | b k =>
    simp only [tyOk] at h
    split at h
    · rename_i hk
      obtain ⟨k1, k2, k3, k4, k5, k6, k7⟩ := kitN (K := Z.K) k hk
      cases v with
      | non => cases h; exact ⟨_, .non, k1⟩
      | bl b => cases h; exact ⟨_, .bl b, k2⟩
      | int b => cases h; exact ⟨_, .int b, k3⟩
      | str b => cases h; exact ⟨_, .str b, k4⟩
      | tup b => cases h; exact ⟨_, .tup b, k5⟩
      | lst b => cases h; exact ⟨_, .lst b, k6⟩
      | rol b => cases h
      | dct t ks vs =>
        cases t with
        | true => simp at h
        | false => simp at h; subst h; exact ⟨_, .dct ks vs, k7⟩
      | obj c ks vs =>
        simp only at h
        split at h
        · rename_i hc; cases h; exact ⟨_, .obj hc, J.cb c k hc hk⟩
        · cases h
      | loc n =>
        simp only at h
        split at h
        · rename_i xs hm; cases h; exact ⟨_, .mlst hm, k6⟩
        · rename_i t ks vs hm
          cases t with
          | true => simp at h
          | false => simp at h; subst h; exact ⟨_, .mdct hm, k7⟩
        · rename_i c ks vs hm
          split at h
          · rename_i hc; cases h; exact ⟨_, .mins hm hc, J.cb c k hc hk⟩
          · cases h
        · cases h
    · cases h
  | c k =>
    simp only [tyOk] at h
    split at h
    · rename_i hk
      cases v with
      | non => cases h; exact ⟨_, .non, J.bc _ k (by decide) hk⟩
      | bl b => cases h; exact ⟨_, .bl b, J.bc _ k (by decide) hk⟩
      | int b => cases h; exact ⟨_, .int b, J.bc _ k (by decide) hk⟩
      | str b => cases h; exact ⟨_, .str b, J.bc _ k (by decide) hk⟩
      | tup b => cases h; exact ⟨_, .tup b, J.bc _ k (by decide) hk⟩
      | lst b => cases h; exact ⟨_, .lst b, J.bc _ k (by decide) hk⟩
      | rol b => cases h
      | dct t ks vs =>
        cases t with
        | true => simp at h
        | false => simp at h; subst h; exact ⟨_, .dct ks vs, J.bc _ k (by decide) hk⟩
      | obj c ks vs =>
        simp only at h
        split at h
        · rename_i hc; cases h; exact ⟨_, .obj hc, J.cc c k hc hk⟩
        · cases h
      | loc n =>
        simp only at h
        split at h
        · rename_i c ks vs hm
          split at h
          · rename_i hc; cases h; exact ⟨_, .mins hm hc, J.cc c k hc hk⟩
          · cases h
        · rename_i xs hm; cases h; exact ⟨_, .mlst hm, J.bc _ k (by decide) hk⟩
        · rename_i t ks vs hm
          cases t with
          | true => simp at h
          | false => simp at h; subst h; exact ⟨_, .mdct hm, J.bc _ k (by decide) hk⟩
        · cases h
    · cases h
theorem TyP.inj {v : PV} {M : Store} {t t' : Value} (h : TyP Z T v M t) (h' : TyP Z T v M t') : t = t' := by
  cases h <;> cases h' <;> first | rfl | (rename_i a b; rw [a] at b; cases b; rfl) | (rename_i a b c; rw [a] at c; cases c; rfl) | (rename_i a b c d; rw [a] at c; cases c; rfl) | (simp_all)
theorem isiV_spec (J : IsiOk Z T) {v : PV} {M : Store} {t : Value} (ht : TyP Z T v M t) : ∀ {ts : List Ty} {u : Bool}, isiV T v M ts = some u → PySem.W.kitAny Z.K t (ts.map (tyVal Z)) = some u
  | [], u, h => by cases h; rfl
  | ty :: ts, u, h => by
    simp only [isiV] at h
    cases q : tyOk T v M ty with
    | none => rw [q] at h; cases h
    | some b =>
      rw [q] at h
      obtain ⟨t', h1, h2⟩ := tyOk_spec J q
      have := ht.inj h1
      subst this
      rw [List.map_cons]
      unfold PySem.W.kitAny
      rw [h2]
      cases b with
      | true => exact h
      | false => exact isiV_spec J ht h
/-- a class by its name -/
theorem s_ty {ty : Ty} {x : Str} (C : Cok Z k X W) (B : BltOk Z) (J : IsiOk Z T) (hg : Gl X x) (hdb : (x == ("__debug__" : Str)) = false) (h : (match ty with | .b n => n ≤ 5 ∧ x = Str.ofString (tyN n) | .c c => T.isi c = true ∧ T.cnm c = some x)) :
    ∃ v, PE X (.Name x p) (tC v) ∧ ClsV v (tyVal Z ty) := by
  cases ty with
  | b n =>
    obtain ⟨hn, rfl⟩ := h
    have e : bootBuiltins (Str.ofString (tyN n)) = some (.type (tyN n)) ∧ Str.ofString (tyN n) ∈ bltNames ∧ Str.ofString (tyN n) ≠ "__name__" := by
      match n, hn with
      | 0, _ => exact ⟨by decide +kernel, by decide +kernel, by decide +kernel⟩
      | 1, _ => exact ⟨by decide +kernel, by decide +kernel, by decide +kernel⟩
      | 2, _ => exact ⟨by decide +kernel, by decide +kernel, by decide +kernel⟩
      | 3, _ => exact ⟨by decide +kernel, by decide +kernel, by decide +kernel⟩
      | 4, _ => exact ⟨by decide +kernel, by decide +kernel, by decide +kernel⟩
      | 5, _ => exact ⟨by decide +kernel, by decide +kernel, by decide +kernel⟩
      | n + 6, h => omega
    exact ⟨.ty (tyN n), pe_bltn hg (by rw [C.mg]; exact B.free _ e.2.1) e.1 rfl e.2.2 hdb, .ty _⟩
  | c c => exact ⟨.ref (Z.cA c), pe_glob hg (by rw [C.mg]; exact J.gl c x h.1 h.2) rfl hdb, .own _⟩
theorem s_isi1 {ty : Ty} {x : Str} {p2 : Pos} (C : Cok Z k X W) (B : BltOk Z) (J : IsiOk Z T) (hg0 : Gl X "isinstance") (hg : Gl X x) (hdb : (x == ("__debug__" : Str)) = false) (h : (match ty with | .b n => n ≤ 5 ∧ x = Str.ofString (tyN n) | .c c => T.isi c = true ∧ T.cnm c = some x)) (hs : notStar e = true) (ha : PE X e (tE Z W da)) :
    PE X (.Call (.Name "isinstance" p) [e, .Name x p2] [] pos) (tE Z W fun ρ M => (da ρ M).bind fun v M1 => R.ofB (isiV T v M1 [ty]) M1) := by
  obtain ⟨cv, h1, h2⟩ := s_ty (p := p2) C B J hg hdb h
  refine impE (pe_callB call_isi hg0 (by rw [C.mg]; exact B.free _ (by decide +kernel)) (by decide +kernel) (pa_cons ha (pa_cons h1 pa_nil rfl) (starEach_cons hs)) (by decide +kernel) (by decide +kernel) (starEach_cons hs) rfl) fun σ H Q ⟨bn, ads, M, ρ, st, sl, h⟩ =>
    ⟨bn, ads, M, ρ, st, sl, h.bind.mono fun x H1 ⟨ads1, v, M1, f1, st1, r1, h1⟩ => ?_⟩
  obtain ⟨u, eu⟩ := ofB_some h1
  have q := eu
  simp only [isiV] at q
  cases z : tyOk T v M1 ty with
  | none => rw [z] at q; cases q
  | some b =>
    rw [z] at q
    obtain ⟨t, g1, g2⟩ := tyOk_spec J z
    have : u = b := by cases b <;> cases q <;> rfl
    subst this
    exact ⟨x, cv, t, _, u, rfl, h2, by rw [C.K]; exact g1.x J st1 r1, by rw [C.K]; exact g2, nowB h1 eu st1⟩
end
end Zk
-- Zk15
set_option maxHeartbeats 4000000
namespace Zk
open PySem PySem.Spec L2

/-- the keys of a dict of tuples, its object known -/
def ItkN (P : Program) (w : World) (d : Addr) (o : Obj) (xs : List (NestedKey × Addr × Value)) : It :=
  ⟨fun i H => H d = some (DN P w d xs o) ∧ i < xs.length, fun i H x H' => H' = H ∧ ∃ e, xs[i]? = some e ∧ x = .ref e.2.1, fun i H => H d = some (DN P w d xs o) ∧ xs.length ≤ i⟩
theorem dn_at {X : Cx} {pins : List (Addr × Obj)} {σ : L2.St} {H : Hp} {s : Shared} (I : Inv X pins σ H s) {d : Addr} {o : Obj} {xs : List (NestedKey × Addr × Value)} (h : H d = some (DN X.prog X.w d xs o)) :
    (d == sysModules) = false ∧ s.heap.get? d = some o ∧ o.ExactDict ∧ ∃ es ep, o.data = .dict es ep ∧ es.toList = xs.map (entryOfKey (nestedKind X.prog X.w)) := by
  obtain ⟨⟨h1, h2, h3, h4, h5, h6⟩, _, _⟩ := I.hok d _ h
  exact ⟨h1, h3, h4, h5⟩
theorem es_at {P : Program} {w : World} {es : Array DictEntry} {xs : List (NestedKey × Addr × Value)} (he : es.toList = xs.map (entryOfKey (nestedKind P w))) {i : Nat} (hi : i < es.size) : ∃ e, xs[i]? = some e ∧ es[i].key = .ref e.2.1 ∧ es[i].val = e.2.2 := by
  have hl : es.size = xs.length := by rw [← Array.length_toList, he, List.length_map]
  have hi' : i < xs.length := by omega
  refine ⟨xs[i], List.getElem?_eq_getElem hi', ?_⟩
  have : es.toList[i]? = some (entryOfKey (nestedKind P w) xs[i]) := by rw [he, List.getElem?_map, List.getElem?_eq_getElem hi']; rfl
  rw [Array.getElem?_toList, Array.getElem?_eq_getElem hi] at this
  rw [Option.some.inj this]
  exact ⟨rfl, rfl⟩
theorem turn_keysN {P : Program} {w : World} {K : PySem.W.Frag} {tg : Expr} {d : Addr} {o : Obj} {xs : List (NestedKey × Addr × Value)} {es : Array DictEntry} {ep : Nat} (it : Addr) (hx : o.ExactDict) (hod : o.data = .dict es ep) (he : es.toList = xs.map (entryOfKey (nestedKind P w))) :
    Turn P w K tg (ItkN P w d o xs) [it] it (fun i h => h.IsKeyIter it d i es.size ep) where
  mem := by simp
  obj := fun i h st b hb => by
    have eb : b = it := by simpa using hb
    subst eb
    obtain ⟨oi, e, c, dd⟩ := st
    exact ⟨oi, e, fun v z => by rw [dd] at z; cases z⟩
  keep := fun i h h' st k => st.at fun oi e => k it (by simp) oi e
  item := by
    intro X hP hw hK hc i pins s σ H E I hf st hg
    subst hP hw hK
    obtain ⟨hd, hi⟩ := hg
    obtain ⟨f0, f1, f2, f3, f4, f5⟩ := hf it (by simp)
    obtain ⟨z1, z2, z3, _⟩ := dn_at I hd
    have hl : es.size = xs.length := by rw [← Array.length_toList, he, List.length_map]
    refine wpAny_pyNext_keys_item_raw st ⟨o, z2, z3, hod⟩ (by omega) fun h' st' sb => ?_
    have J : Inv X pins σ H { s with heap := h' } := I.turned (t' := s.toks) (fun b ob hb e => (sb.2 b hb).trans e) f0 f1 f3 f4 f5
    obtain ⟨en, hen, hkey, _⟩ := es_at he (i := i) (by omega)
    obtain ⟨oi, e, c, dd⟩ := id st'
    exact ⟨_, rfl, go_of (s := { s with heap := h' }) e c dd (by decide) ⟨.ref en.2.1, H, J, hkey, ⟨rfl, en, hen, rfl⟩, st', fun b hb => (hf b hb).1⟩⟩
  done := by
    intro X hP hw hK hc i pins s σ H E I hf st hg
    subst hP hw hK
    obtain ⟨hd, hi⟩ := hg
    obtain ⟨f0, f1, f2, f3, f4, f5⟩ := hf it (by simp)
    obtain ⟨z1, z2, z3, _⟩ := dn_at I hd
    have hl : es.size = xs.length := by rw [← Array.length_toList, he, List.length_map]
    exact wpAny_pyNext_keys_end_raw (I.ok.hd hc) st ⟨o, z2, z3, hod⟩ (by omega) fun h' eb => ⟨rfl, I.turned (t' := s.toks) (fun b ob hb e => eb b ob hb e) f0 f1 f3 f4 f5⟩
  self := fun A i s Q E st h => wpAny_pyIter_keyiter st h
/-- a list, a tuple or a dict of tuples, whichever it is -/
def iAny (P : Program) (w : World) (K : PySem.W.Frag) (tl : TE) : TI := fun σ H R => tl σ H fun x H1 => (∃ a, x = .ref a ∧ (∃ xs, SqL K H1 a xs) ∧ R (Itl K a) H1) ∨ (∃ a, x = .ref a ∧ (∃ xs, SqT K H1 a xs) ∧ R (Itt K a) H1) ∨ (∃ d o xs, x = .ref d ∧ H1 d = some (DN P w d xs o) ∧ R (ItkN P w d o xs) H1)
theorem pi_any {X : Cx} {tg l : Expr} {tl : TE} (hl : PE X l tl) : PI X tg l (iAny X.prog X.w X.K tl) := by
  refine ⟨fun pins s σ H R I h => ?_⟩
  refine thn (hl.run pins s σ H _ I h) fun v s1 ⟨x, H1, I1, r1, q1⟩ => ?_
  rcases q1 with ⟨a, e, ⟨xs, hq⟩, q⟩ | ⟨a, e, ⟨xs, hq⟩, q⟩ | ⟨d, o, xs, e, hd, q⟩
  · subst e
    cases r1
    obtain ⟨its, rv, p, hz⟩ := I1.list hq
    exact wpAny_pyIter_list p.isList (pi_one (tk := s1.toks) I1 _ (turn_list a _) ⟨_, Heap.get?_push_size _ rfl, rfl, rfl⟩ q)
  · subst e
    cases r1
    obtain ⟨its, rv, p, hz⟩ := I1.tuple hq
    exact wpAny_pyIter_tuple (show s1.heap.IsTuple a its.toArray from p) (pi_one (tk := s1.toks) I1 _ (turn_tuple a _) ⟨_, Heap.get?_push_size _ rfl, rfl, rfl⟩ q)
  · subst e
    cases r1
    obtain ⟨z1, z2, z3, es, ep, z4, z5⟩ := dn_at I1 hd
    exact wpAny_pyIter_dict_raw z1 ⟨o, z2, z3, z4⟩ (pi_one (tk := s1.toks) I1 _ (turn_keysN _ z3 z4 z5) ⟨_, Heap.get?_push_size _ rfl, rfl, rfl⟩ q)


/-- what is frozen stays, and is frozen there -/
structure Mv (H : Hp) (b : Ban) (ads : Ads) (H' : Hp) (b' : Ban) (ads' : Ads) : Prop where
  fz : ∀ a o, H a = some o → Fz b ads a → H' a = some o ∧ Fz b' ads' a
  le : ads.length ≤ ads'.length
  old : ∀ (n : Nat) a, n < ads.length → ads'[n]? = some (some a) → ads[n]? = some (some a)
  dead : ∀ (n : Nat), ads[n]? = some none → ads'[n]? = some none
section
variable {Z : Wd} {W : WX} {H H' H'' : Hp} {b b' b'' : Ban} {ads ads' ads'' : Ads}
theorem Aft.mv (f : Aft H ads H' ads') : Mv H b ads H' b ads' := ⟨fun a o h z => ⟨f.keep a o h z.2, f.fz h z⟩, f.le, f.old, f.dead⟩
theorem Mv.refl : Mv H b ads H b ads := Aft.refl.mv
theorem Mv.trans (f : Mv H b ads H' b' ads') (g : Mv H' b' ads' H'' b'' ads'') : Mv H b ads H'' b'' ads'' :=
  ⟨fun a o h z => let ⟨h1, z1⟩ := f.fz a o h z; g.fz a o h1 z1, Nat.le_trans f.le g.le, fun n a q e => f.old n a q (g.old n a (Nat.lt_of_lt_of_le q f.le) e), fun n e => g.dead n (f.dead n e)⟩
theorem Mv.rd (f : Mv H b ads H' b' ads') {a : Addr} {u : HO} (z : Fz b ads a) (h : Rd H a u) : Rd H' a u ∧ Fz b' ads' a := by
  rcases h with h | ⟨o, h⟩
  · exact ⟨.inl (f.fz a _ h z).1, (f.fz a _ h z).2⟩
  · exact ⟨.inr ⟨o, (f.fz a _ h z).1⟩, (f.fz a _ h z).2⟩
mutual
theorem Rp.mv (f : Mv H b ads H' b' ads') : ∀ (p : PV) (v : V), Rp Z H b ads p v → Rp Z H' b' ads' p v
  | .non, v, h => by simpa only [Rp] using h
  | .bl _, v, h => by simpa only [Rp] using h
  | .int _, v, h => by simpa only [Rp] using h
  | .str _, v, h => by simpa only [Rp] using h
  | .tup xs, v, h => by
    simp only [Rp] at h ⊢
    obtain ⟨a, vs, e, k, r⟩ := h
    refine ⟨a, vs, e, ?_, RpL.mv f xs vs r⟩
    rcases k with ⟨z, k⟩ | k
    · exact .inl ⟨(f.rd z k).2, (f.rd z k).1⟩
    · exact .inr k
  | .lst xs, v, h => by
    simp only [Rp] at h ⊢
    obtain ⟨a, vs, e, z, k, r⟩ := h
    exact ⟨a, vs, e, (f.fz a _ k z).2, (f.fz a _ k z).1, RpL.mv f xs vs r⟩
  | .rol xs, v, h => by
    simp only [Rp] at h ⊢
    obtain ⟨a, vs, e, k, r⟩ := h
    refine ⟨a, vs, e, ?_, RpL.mv f xs vs r⟩
    rcases k with ⟨z, k⟩ | k
    · exact .inl ⟨(f.rd z k).2, (f.rd z k).1⟩
    · exact .inr k
  | .dct t ks ws, v, h => by
    cases t with
    | false =>
      simp only [Rp] at h ⊢
      obtain ⟨a, kvs, e, z, k, r1, r2⟩ := h
      exact ⟨a, kvs, e, (f.fz a _ k z).2, (f.fz a _ k z).1, r1, RpL.mv f ws _ r2⟩
    | true =>
      simp only [Rp] at h ⊢
      obtain ⟨a, xs, vs, e, z, ⟨ob, k⟩, ko, n, r1, r2, r3⟩ := h
      exact ⟨a, xs, vs, e, (f.fz a _ k z).2, ⟨ob, (f.fz a _ k z).1⟩, ko, n, RpL.mv f ks _ r1, RpL.mv f ws _ r2, r3⟩
  | .obj c ks ws, v, h => by
    simp only [Rp] at h ⊢
    obtain ⟨a, dx, fs, e, z, k, n, r⟩ := h
    exact ⟨a, dx, fs, e, (f.fz a _ k z).2, (f.fz a _ k z).1, n, RpL.mv f ws _ r⟩
  | .loc n, v, h => by
    simp only [Rp] at h ⊢
    rcases h with h | ⟨a, h, e⟩
    · exact .inl (f.dead n h)
    · have q : n < ads'.length := Nat.lt_of_lt_of_le (lt_ads h) f.le
      obtain ⟨x, hx⟩ : ∃ x, ads'[n]? = some x := ⟨ads'[n], by simp [q]⟩
      cases x with
      | none => exact .inl hx
      | some c =>
        have z := f.old n c (lt_ads h) hx
        rw [h] at z; cases z
        exact .inr ⟨a, hx, e⟩
theorem RpL.mv (f : Mv H b ads H' b' ads') : ∀ (ps : List PV) (vs : List V), RpL Z H b ads ps vs → RpL Z H' b' ads' ps vs
  | [], vs, h => by rw [h.nil_inv]; exact RpL.nil
  | p :: ps, vs, h => by
    obtain ⟨v, ws, e, r1, r2⟩ := h.cons_inv
    subst e
    exact RpL.cons (Rp.mv f p v r1) (RpL.mv f ps ws r2)
end
theorem SlotR.mv (f : Mv H b ads H' b' ads') {ρ : Sl} {σ : L2.St} (s : SlotR Z H b ads ρ σ) : SlotR Z H' b' ads' ρ σ :=
  ⟨s.len, fun i p e => let ⟨v, e1, r⟩ := s.at_ i p e; ⟨v, e1, Rp.mv f p v r⟩⟩
theorem MoR.mv {mo : MO} {a : Addr} (f : Mv H b ads H' b' ads') (k : ∀ o, H a = some o → H' a = some o) (h : MoR Z H b ads mo a) : MoR Z H' b' ads' mo a := by
  cases mo with
  | lst xs => obtain ⟨vs, e, r⟩ := h; exact ⟨vs, k _ e, RpL.mv f _ _ r⟩
  | dct t ks ws =>
    cases t with
    | false => obtain ⟨kvs, e, r1, r2⟩ := h; exact ⟨kvs, k _ e, r1, RpL.mv f _ _ r2⟩
    | true => obtain ⟨xs, vs, ⟨ob, e⟩, ko, n, r1, r2, r3⟩ := h; exact ⟨xs, vs, ⟨ob, k _ e⟩, ko, n, RpL.mv f _ _ r1, RpL.mv f _ _ r2, r3⟩
  | ins c ks ws => obtain ⟨dx, fs, e, n, r⟩ := h; exact ⟨dx, fs, k _ e, n, RpL.mv f _ _ r⟩
  | dead => exact h.elim
def bar (b : Ban) (d : Addr) : Ban := fun a => b a ∨ a = d
theorem mv_bar {d : Addr} {o : HO} (h : H d = none) : Mv H b ads (upd H d o) (bar b d) ads where
  fz := fun a u e z => by
    have ne : a ≠ d := fun q => by rw [q, h] at e; cases e
    exact ⟨by rw [upd_ne ne]; exact e, fun q => q.elim z.1 ne, z.2⟩
  le := Nat.le_refl _
  old := fun _ _ _ e => e
  dead := fun _ e => e
theorem mv_wr {d : Addr} {o : HO} (h : b d) : Mv H b ads (upd H d o) b ads where
  fz := fun a u e z => by
    have ne : a ≠ d := fun q => z.1 (q ▸ h)
    exact ⟨by rw [upd_ne ne]; exact e, z⟩
  le := Nat.le_refl _
  old := fun _ _ _ e => e
  dead := fun _ e => e
theorem mv_un {d : Addr} : Mv H (bar b d) ads H b ads where
  fz := fun a u e z => ⟨e, fun q => z.1 (.inl q), z.2⟩
  le := Nat.le_refl _
  old := fun _ _ _ e => e
  dead := fun _ e => e
theorem StoR.mv {M : Store} (s : StoR Z H b ads M) (f : Mv H b ads H' b' ads) (k : ∀ a o, some a ∈ ads → H a = some o → H' a = some o) (bt : ∀ a, b' a → ∃ o, H' a = some o) (nb : ∀ a, some a ∈ ads → ¬ b' a) : StoR Z H' b' ads M where
  len := s.len
  at_ := fun n a e => let ⟨mo, e1, r⟩ := s.at_ n a e; ⟨mo, e1, r.mv f fun o h => k a o (ads_mem e) h⟩
  dead := s.dead
  inj := s.inj
  bt := bt
  nb := fun n a e => nb a (ads_mem e)
theorem StoR.bar {M : Store} {d : Addr} {o : HO} (s : StoR Z H b ads M) (h : H d = none) : StoR Z (upd H d o) (bar b d) ads M :=
  s.mv (mv_bar h) (fun a u _ e => by rw [upd_ne (ne_of_none e h)]; exact e) (fun a q => q.elim (fun z => let ⟨u, e⟩ := s.bt a z; ⟨u, by rw [upd_ne (ne_of_none e h)]; exact e⟩) fun z => ⟨o, by rw [z]; exact upd_same⟩)
    fun a m q => q.elim (fun z => let ⟨n, e⟩ := mem_ads m; s.nb n a e z) fun z => by
      obtain ⟨u, e⟩ := s.live m
      rw [z, h] at e; cases e
theorem StoR.wr {M : Store} {d : Addr} {o : HO} (s : StoR Z H b ads M) (h : b d) : StoR Z (upd H d o) b ads M := by
  have nb : ∀ a, some a ∈ ads → ¬ b a := fun a m => let ⟨n, e⟩ := mem_ads m; s.nb n a e
  refine s.mv (mv_wr h) (fun a u m e => ?_) (fun a z => ?_) nb
  · have ne : a ≠ d := fun q => nb a m (q ▸ h)
    rw [upd_ne ne]; exact e
  · by_cases q : a = d
    · exact ⟨o, by rw [q]; exact upd_same⟩
    · obtain ⟨u, e⟩ := s.bt a z
      exact ⟨u, by rw [upd_ne q]; exact e⟩
theorem StoR.unbar {M : Store} {d : Addr} (s : StoR Z H (Zk.bar b d) ads M) : StoR Z H b ads M :=
  s.mv mv_un (fun _ _ _ e => e) (fun a z => s.bt a (.inl z)) fun a m z => let ⟨n, e⟩ := mem_ads m; s.nb n a e (.inl z)

structure ItR (Z : Wd) (J : It) (items : List PV) (H : Hp) (b : Ban) (ads : Ads) : Prop where
  go : ∀ (i : Nat) H1 b1 ads1, Mv H b ads H1 b1 ads1 → i < items.length → J.go i H1
  stop : ∀ H1 b1 ads1, Mv H b ads H1 b1 ads1 → J.stop items.length H1
  yld : ∀ (i : Nat) H1 b1 ads1 M1 p x H2, Mv H b ads H1 b1 ads1 → StoR Z H1 b1 ads1 M1 → items[i]? = some p → J.yld i H1 x H2 → (∀ a o, H1 a = some o → H2 a = some o) ∧ Rp Z H2 b1 ads1 p x
theorem ItR.mv {J : It} {items : List PV} (r : ItR Z J items H b ads) (f : Mv H b ads H' b' ads') : ItR Z J items H' b' ads' :=
  ⟨fun i H1 b1 ads1 g => r.go i H1 b1 ads1 (f.trans g), fun H1 b1 ads1 g => r.stop H1 b1 ads1 (f.trans g), fun i H1 b1 ads1 M1 p x H2 g => r.yld i H1 b1 ads1 M1 p x H2 (f.trans g)⟩
theorem rpL_sqT {ps : List PV} {vs : List V} {a : Addr} (q : (Fz b ads a ∧ Rd H a (.tup vs)) ∨ KT Z.K a vs) : ∀ {H1 : Hp} {b1 : Ban} {ads1 : Ads}, Mv H b ads H1 b1 ads1 → SqT Z.K H1 a vs := fun {H1 b1 ads1} f => by
  rcases q with ⟨z, q⟩ | q
  · exact .inl (f.rd z q).1
  · exact .inr q
/-- a list -/
theorem it_list {a : Addr} {ps : List PV} {vs : List V} (z : Fz b ads a) (h : H a = some (.lst vs)) (r : RpL Z H b ads ps vs) : ItR Z (Itl Z.K a) ps H b ads where
  go := fun i H1 b1 ads1 f hi => by
    obtain ⟨v, e, _⟩ := r.get (List.getElem?_eq_getElem hi)
    exact ⟨vs, v, .inl (.inl (f.fz a _ h z).1), e⟩
  stop := fun H1 b1 ads1 f => ⟨vs, .inl (.inl (f.fz a _ h z).1), by rw [r.length]; exact Nat.le_refl _⟩
  yld := fun i H1 b1 ads1 M1 p x H2 f s e y => by
    obtain ⟨y1, y2⟩ := y
    subst y1
    refine ⟨fun _ _ q => q, ?_⟩
    obtain ⟨v, e1, rv⟩ := r.get e
    have := y2 vs (.inl (.inl (f.fz a _ h z).1))
    rw [e1] at this; cases this
    exact Rp.mv f _ _ rv
/-- a tuple -/
theorem it_tup {a : Addr} {ps : List PV} {vs : List V} (q : (Fz b ads a ∧ Rd H a (.tup vs)) ∨ KT Z.K a vs) (r : RpL Z H b ads ps vs) : ItR Z (Itt Z.K a) ps H b ads where
  go := fun i H1 b1 ads1 f hi => by
    obtain ⟨v, e, _⟩ := r.get (List.getElem?_eq_getElem hi)
    exact ⟨vs, v, rpL_sqT (ps := ps) q f, e⟩
  stop := fun H1 b1 ads1 f => ⟨vs, rpL_sqT (ps := ps) q f, by rw [r.length]; exact Nat.le_refl _⟩
  yld := fun i H1 b1 ads1 M1 p x H2 f s e y => by
    obtain ⟨y1, y2⟩ := y
    subst y1
    refine ⟨fun _ _ q => q, ?_⟩
    obtain ⟨v, e1, rv⟩ := r.get e
    have := y2 vs (rpL_sqT (ps := ps) q f)
    rw [e1] at this; cases this
    exact Rp.mv f _ _ rv
/-- the keys of a dict of tuples -/
theorem it_keysN {d : Addr} {o : Obj} {xs : List (NestedKey × Addr × Value)} {ks : List PV} (z : Fz b ads d) (h : H d = some (DN Z.P Z.w d xs o)) (r : RpL Z H b ads ks (xs.map fun p => V.ref p.2.1)) : ItR Z (ItkN Z.P Z.w d o xs) ks H b ads where
  go := fun i H1 b1 ads1 f hi => ⟨(f.fz d _ h z).1, by have := r.length; rw [List.length_map] at this; omega⟩
  stop := fun H1 b1 ads1 f => ⟨(f.fz d _ h z).1, by have := r.length; rw [List.length_map] at this; omega⟩
  yld := fun i H1 b1 ads1 M1 p x H2 f s e y => by
    obtain ⟨y1, en, y2, y3⟩ := y
    subst y1 y3
    refine ⟨fun _ _ q => q, ?_⟩
    obtain ⟨v, e1, rv⟩ := r.get e
    rw [List.getElem?_map, y2] at e1
    cases e1
    exact Rp.mv f _ _ rv
theorem rangeL_len (i : Int) : ∀ n, (rangeL i n).length = n
  | 0 => rfl
  | n + 1 => by simp [rangeL, rangeL_len (i + 1) n]
theorem rangeL_at : ∀ (i : Int) (n j : Nat), j < n → (rangeL i n)[j]? = some (.int (i + j))
  | i, 0, j, h => by omega
  | i, n + 1, 0, _ => by simp [rangeL]
  | i, n + 1, j + 1, h => by
    rw [rangeL, List.getElem?_cons_succ, rangeL_at (i + 1) n j (by omega)]
    congr 2
    push_cast
    omega
theorem it_range (lo : Int) (n : Nat) : ItR Z (Itr lo n) (rangeL lo n) H b ads where
  go := fun i H1 b1 ads1 f hi => by rw [rangeL_len] at hi; exact hi
  stop := fun H1 b1 ads1 f => by
    show n ≤ (rangeL lo n).length
    rw [rangeL_len]; exact Nat.le_refl _
  yld := fun i H1 b1 ads1 M1 p x H2 f s e y => by
    obtain ⟨y1, y2⟩ := y
    subst y1 y2
    refine ⟨fun _ _ q => q, ?_⟩
    have hi : i < n := by
      have := List.getElem?_eq_some_iff.mp e
      obtain ⟨h, _⟩ := this
      rw [rangeL_len] at h; exact h
    rw [rangeL_at lo n i hi] at e
    cases e
    exact rp_int
theorem zip2_at : ∀ (ps qs : List PV) (i : Nat) (p : PV), (zip2 ps qs)[i]? = some p → ∃ x y, p = .tup [x, y] ∧ ps[i]? = some x ∧ qs[i]? = some y
  | x :: ps, y :: qs, 0, p, h => by simp [zip2] at h; exact ⟨x, y, h.symm, rfl, rfl⟩
  | x :: ps, y :: qs, i + 1, p, h => by
    simp only [zip2, List.getElem?_cons_succ] at h
    obtain ⟨a, c, e1, e2, e3⟩ := zip2_at ps qs i p h
    exact ⟨a, c, e1, by simpa using e2, by simpa using e3⟩
  | [], qs, i, p, h => by simp [zip2] at h
  | x :: ps, [], i, p, h => by simp [zip2] at h
theorem zip2_len : ∀ (ps qs : List PV), (zip2 ps qs).length = min ps.length qs.length
  | x :: ps, y :: qs => by simp [zip2, zip2_len ps qs]
  | [], qs => by simp [zip2]
  | x :: ps, [] => by simp [zip2]
theorem it_zipT {a c : Addr} {ps qs : List PV} {vs ws : List V} (q : (Fz b ads a ∧ Rd H a (.tup vs)) ∨ KT Z.K a vs) (r : RpL Z H b ads ps vs) (q' : (Fz b ads c ∧ Rd H c (.tup ws)) ∨ KT Z.K c ws) (r' : RpL Z H b ads qs ws) : ItR Z (RZ.ItzT Z.K a c) (zip2 ps qs) H b ads where
  go := fun i H1 b1 ads1 f hi => by
    rw [zip2_len] at hi
    obtain ⟨v, e, _⟩ := r.get (List.getElem?_eq_getElem (show i < ps.length by omega))
    obtain ⟨w, e', _⟩ := r'.get (List.getElem?_eq_getElem (show i < qs.length by omega))
    exact ⟨vs, ws, v, w, rpL_sqT (ps := ps) q f, rpL_sqT (ps := qs) q' f, e, e'⟩
  stop := fun H1 b1 ads1 f => ⟨vs, ws, rpL_sqT (ps := ps) q f, rpL_sqT (ps := qs) q' f, by rw [zip2_len, ← r.length, ← r'.length]; omega⟩
  yld := fun i H1 b1 ads1 M1 p x H2 f s e y => by
    obtain ⟨T, v, w, y1, y2, y3, y4, y5⟩ := y
    subst y1 y3
    obtain ⟨px, py, e1, e2, e3⟩ := zip2_at ps qs i p e
    subst e1
    obtain ⟨v', g1, rv⟩ := r.get e2
    obtain ⟨w', g2, rw'⟩ := r'.get e3
    have h1 := y4 vs (rpL_sqT (ps := ps) q f)
    have h2 := y5 ws (rpL_sqT (ps := qs) q' f)
    rw [g1] at h1; cases h1
    rw [g2] at h2; cases h2
    exact ⟨keep_upd y2, rp_tup s y2 (RpL.cons (Rp.mv f _ _ rv) (RpL.cons (Rp.mv f _ _ rw') RpL.nil))⟩
theorem it_zipL {a c : Addr} {ps qs : List PV} {vs ws : List V} (z : Fz b ads a) (q : H a = some (.lst vs)) (r : RpL Z H b ads ps vs) (z' : Fz b ads c) (q' : H c = some (.lst ws)) (r' : RpL Z H b ads qs ws) : ItR Z (Itz Z.K a c) (zip2 ps qs) H b ads where
  go := fun i H1 b1 ads1 f hi => by
    rw [zip2_len] at hi
    obtain ⟨v, e, _⟩ := r.get (List.getElem?_eq_getElem (show i < ps.length by omega))
    obtain ⟨w, e', _⟩ := r'.get (List.getElem?_eq_getElem (show i < qs.length by omega))
    exact ⟨vs, ws, v, w, .inl (.inl (f.fz a _ q z).1), .inl (.inl (f.fz c _ q' z').1), e, e'⟩
  stop := fun H1 b1 ads1 f => ⟨vs, ws, .inl (.inl (f.fz a _ q z).1), .inl (.inl (f.fz c _ q' z').1), by rw [zip2_len, ← r.length, ← r'.length]; omega⟩
  yld := fun i H1 b1 ads1 M1 p x H2 f s e y => by
    obtain ⟨T, v, w, y1, y2, y3, y4, y5⟩ := y
    subst y1 y3
    obtain ⟨px, py, e1, e2, e3⟩ := zip2_at ps qs i p e
    subst e1
    obtain ⟨v', g1, rv⟩ := r.get e2
    obtain ⟨w', g2, rw'⟩ := r'.get e3
    have h1 := y4 vs (.inl (.inl (f.fz a _ q z).1))
    have h2 := y5 ws (.inl (.inl (f.fz c _ q' z').1))
    rw [g1] at h1; cases h1
    rw [g2] at h2; cases h2
    exact ⟨keep_upd y2, rp_tup s y2 (RpL.cons (Rp.mv f _ _ rv) (RpL.cons (Rp.mv f _ _ rw') RpL.nil))⟩
end
section
variable (Z : Wd) (W : WX)
def EndI (k : ItK) (σ : L2.St) (H : Hp) (b : Ban) (ads : Ads) (Q : It → Hp → Prop) : R PV → Prop
  | .ok v M => ∃ items, walkV k (bargs v) = some items ∧ ∀ H' ads' J, Aft H ads H' ads' → StoR Z H' b ads' M → ItR Z J items H' b ads' → Q J H'
  | .exc x M => ∀ H' ads' cls d, Aft H ads H' ads' → StoR Z H' b ads' M → XR Z H' b ads' x cls d → W cls d σ H'
  | .bad => False
def tI (k : ItK) (d : Sl → Store → R PV) : TI := fun σ H Q => ∃ b ads M ρ, StoR Z H b ads M ∧ SlotR Z H b ads ρ σ ∧ EndI Z W k σ H b ads Q (d ρ M)
end
section
variable {Z : Wd} {W : WX} {X : Cx} {k : Nat} {e a b c o tg : Expr} {es : List Expr} {d da db dc : Sl → Store → R PV} {p pos apos : Pos}
theorem impI {X : Cx} {tg e : Expr} {t t' : TI} (h : PI X tg e t) (i : ∀ σ H Q, t' σ H Q → t σ H Q) : PI X tg e t' := ⟨fun pins s σ H Q I q => h.run pins s σ H Q I (i _ _ _ q)⟩
theorem s_iVal (C : Cok Z k X W) (h : PE X e (tE Z W da)) : PI X tg e (tI Z W .val fun ρ M => (da ρ M).bind fun v M1 => (R.ok (.tup []) M1).bind fun w M2 => .ok (.tup (v :: bargs w)) M2) := by
  refine impI (pi_any h) fun σ H Q ⟨bn, ads, M, ρ, st, sl, h⟩ => ⟨bn, ads, M, ρ, st, sl, ?_⟩
  dsimp only at h
  cases q : da ρ M with
  | bad => rw [q] at h; exact h
  | exc x M1 => rw [q] at h; exact h
  | ok v M1 =>
    rw [q] at h
    intro H1 ads1 x f1 st1 r1
    obtain ⟨items, hw, h⟩ := h
    have hw : walkV .val [v] = some items := hw
    cases v with
    | tup xs =>
      cases hw
      simp only [Rp] at r1
      obtain ⟨a, vs, ex, hq, r⟩ := r1
      refine .inr (.inl ⟨a, ex, ⟨vs, ?_⟩, ?_⟩)
      · rw [C.K]; exact rpL_sqT (ps := items) hq Mv.refl
      · rw [C.K]; exact h H1 ads1 _ f1 st1 (it_tup hq r)
    | lst xs =>
      cases hw
      simp only [Rp] at r1
      obtain ⟨a, vs, ex, z, hq, r⟩ := r1
      refine .inl ⟨a, ex, ⟨vs, .inl (.inl hq)⟩, ?_⟩
      rw [C.K]; exact h H1 ads1 _ f1 st1 (it_list z hq r)
    | dct t ks ws =>
      cases t with
      | false => simp [walkV] at hw
      | true =>
        cases hw
        simp only [Rp] at r1
        obtain ⟨a, xs, vs, ex, z, ⟨ob, hd⟩, ko, n, rk, rv, hv⟩ := r1
        refine .inr (.inr ⟨a, ob, xs, ex, ?_, ?_⟩)
        · rw [C.prog, C.w]; exact hd
        · rw [C.prog, C.w]; exact h H1 ads1 _ f1 st1 (it_keysN z hd rk)
    | _ => simp [walkV] at hw
theorem s_iRange (C : Cok Z k X W) (hg : Gl X "range") (hm : Z.mg "range" = none) (hs : notStar a = true) (h : PA X [a] (tA Z W da)) : PI X tg (.Call (.Name "range" p) [a] [] pos) (tI Z W .range da) := by
  refine impI (pi_range1 hg (by rw [C.mg]; exact hm) h (starEach_cons hs)) fun σ H Q ⟨bn, ads, M, ρ, st, sl, h⟩ => ⟨bn, ads, M, ρ, st, sl, ?_⟩
  cases q : da ρ M with
  | bad => rw [q] at h; exact h
  | exc x M1 => rw [q] at h; exact h
  | ok v M1 =>
    rw [q] at h
    intro H1 ads1 xs f1 st1 r1
    obtain ⟨items, hw, h⟩ := h
    generalize bargs v = vs at hw r1
    match vs, hw with
    | [.int j], hw =>
      obtain ⟨x, r, e, r2, r3⟩ := r1.cons_inv
      rw [r3.nil_inv] at e
      rw [r2.int] at e
      simp only [walkV] at hw
      split at hw
      · rename_i hj
        simp only [Bool.and_eq_true, decide_eq_true_eq] at hj
        cases hw
        refine ⟨j, e, by omega, by omega, h H1 ads1 _ f1 st1 (it_range 0 _)⟩
      · cases hw
theorem s_iZip {elts : List Expr} {kk : Nat} {tpos : Pos} (C : Cok Z k X W) (hg : Gl X "zip") (hm : Z.mg "zip" = none) (hs : noStars [a, b] = true) (h : PA X [a, b] (tA Z W da)) : PI X (.Tuple elts kk tpos) (.Call (.Name "zip" p) [a, b] [] pos) (tI Z W .zip da) := by
  have hs' := hs
  simp only [noStars, List.all_cons, Bool.and_eq_true] at hs'
  refine impI (RZ.pi_zipA hg (by rw [C.mg]; exact hm) h (starEach_cons hs'.1) (any_stars (by simpa [noStars] using hs'.2))) fun σ H Q ⟨bn, ads, M, ρ, st, sl, h⟩ => ⟨bn, ads, M, ρ, st, sl, ?_⟩
  cases q : da ρ M with
  | bad => rw [q] at h; exact h
  | exc x M1 => rw [q] at h; exact h
  | ok v M1 =>
    rw [q] at h
    intro H1 ads1 xs f1 st1 r1
    obtain ⟨items, hw, h⟩ := h
    generalize bargs v = vs at hw r1
    match vs, hw with
    | [.tup ps, .tup qs], hw =>
      obtain ⟨x, r, e, r2, r3⟩ := r1.cons_inv
      obtain ⟨y, r', e', r4, r5⟩ := r3.cons_inv
      rw [r5.nil_inv] at e'
      subst e' e
      cases hw
      simp only [Rp] at r2 r4
      obtain ⟨a1, vs1, ex1, hq1, rl1⟩ := r2
      obtain ⟨a2, vs2, ex2, hq2, rl2⟩ := r4
      subst ex1 ex2
      refine ⟨a1, a2, vs1, vs2, rfl, .inr ⟨?_, ?_, ?_⟩⟩
      · rw [C.K]; exact rpL_sqT (ps := ps) hq1 Mv.refl
      · rw [C.K]; exact rpL_sqT (ps := ps) hq2 Mv.refl
      · rw [C.K]; exact h H1 ads1 _ f1 st1 (it_zipT hq1 rl1 hq2 rl2)
    | [.lst ps, .lst qs], hw =>
      obtain ⟨x, r, e, r2, r3⟩ := r1.cons_inv
      obtain ⟨y, r', e', r4, r5⟩ := r3.cons_inv
      rw [r5.nil_inv] at e'
      subst e' e
      cases hw
      simp only [Rp] at r2 r4
      obtain ⟨a1, vs1, ex1, z1, hq1, rl1⟩ := r2
      obtain ⟨a2, vs2, ex2, z2, hq2, rl2⟩ := r4
      subst ex1 ex2
      refine ⟨a1, a2, vs1, vs2, rfl, .inl ⟨.inl (.inl hq1), .inl (.inl hq2), ?_⟩⟩
      rw [C.K]; exact h H1 ads1 _ f1 st1 (it_zipL z1 hq1 rl1 z2 hq2 rl2)
end
end Zk
-- Zk16
set_option maxHeartbeats 4000000
namespace Zk
open PySem PySem.Spec L2

section
variable {Z : Wd} {W : WX} {X : Cx} {H H' : Hp} {b : Ban} {ads ads' : Ads}
theorem SlotR.set {ρ : Sl} {σ : L2.St} {i : Nat} {p : PV} {v : V} (s : SlotR Z H b ads ρ σ) (r : Rp Z H b ads p v) : SlotR Z H b ads (setS ρ i p) (σ.set i (some v)) where
  len := by simp [setS, s.len]
  at_ := fun j q e => by
    unfold setS at e
    rw [List.getElem?_set] at e
    split at e
    · rename_i hij
      subst hij
      split at e
      · rename_i hl
        cases e
        exact ⟨v, by rw [List.getElem?_set]; simp [← s.len, hl], r⟩
      · cases e
    · rename_i hij
      obtain ⟨w, e1, r1⟩ := s.at_ j q e
      exact ⟨w, by rw [List.getElem?_set, if_neg hij]; exact e1, r1⟩
def setL : List Nat → List V → L2.St → L2.St
  | i :: is, v :: vs, σ => setL is vs (σ.set i (some v))
  | _, _, σ => σ
theorem setL_out : ∀ {is : List Nat} {vs : List V} {σ : L2.St} {j : Nat}, j ∉ is → (setL is vs σ)[j]? = σ[j]?
  | [], vs, σ, j, _ => by cases vs <;> rfl
  | i :: is, [], σ, j, _ => rfl
  | i :: is, v :: vs, σ, j, h => by
    simp only [List.mem_cons, not_or] at h
    rw [setL, setL_out h.2, List.getElem?_set, if_neg (Ne.symm h.1)]
theorem SlotR.setMany : ∀ {is : List Nat} {ps : List PV} {vs : List V} {ρ ρ' : Sl} {σ : L2.St}, SlotR Z H b ads ρ σ → RpL Z H b ads ps vs → Zk.setMany is ps ρ = some ρ' → SlotR Z H b ads ρ' (setL is vs σ) ∧ vs.length = is.length
  | [], [], vs, ρ, ρ', σ, s, r, e => by
    rw [r.nil_inv]
    cases e
    exact ⟨s, rfl⟩
  | i :: is, p :: ps, vs, ρ, ρ', σ, s, r, e => by
    obtain ⟨v, ws, e1, r1, r2⟩ := r.cons_inv
    subst e1
    obtain ⟨h1, h2⟩ := SlotR.setMany (s.set (i := i) r1) r2 e
    exact ⟨h1, by simp [h2]⟩
  | [], p :: ps, vs, ρ, ρ', σ, s, r, e => by simp [Zk.setMany] at e
  | i :: is, [], vs, ρ, ρ', σ, s, r, e => by simp [Zk.setMany] at e
def tgL : Tg → List Nat
  | .one i => [i]
  | .many is => is
/-- a target is given a value -/
def gZ (Z : Wd) (tg : Tg) : TG := fun v σ H Q => ∃ b ads p ρ ρ', Rp Z H b ads p v ∧ SlotR Z H b ads ρ σ ∧ setT tg p ρ = some ρ' ∧ ∀ σ', SlotR Z H b ads ρ' σ' → (∀ i, i ∉ tgL tg → σ'[i]? = σ[i]?) → Q σ' H
/-- the slot of a name that may be set -/
def NmOk (X : Cx) (e : Expr) (i : Nat) : Prop := ∃ x pos, e = .Name x pos ∧ X.N[i]? = some x ∧ ((X.env.scope.names.lookup x = some .local) ∨ (X.env.scope.names.lookup x = some .cell ∧ X.fn x = true))
theorem NmOk.pg {e : Expr} {i : Nat} (hN : X.N.Nodup) (h : NmOk X e i) : PG X e (gName i) := by
  obtain ⟨x, pos, rfl, h1, h2⟩ := h
  rcases h2 with h2 | ⟨h2, h3⟩
  · exact pg_name hN h1 (.inl h2) (.inr h2)
  · exact pg_name hN h1 (.inr h2) (.inl h3)
theorem impG {e : Expr} {t t' : TG} (h : PG X e t) (i : ∀ v σ H Q, t' v σ H Q → t v σ H Q) : PG X e t' := ⟨fun pins s σ H v u Q I r q => h.run pins s σ H v u Q I r (i _ _ _ _ q)⟩
theorem impGs {es : List Expr} {t t' : TGs} (h : PGs X es t) (i : ∀ v σ H Q, t' v σ H Q → t v σ H Q) : PGs X es t' := ⟨fun pins s σ H v u Q I r q => h.run pins s σ H v u Q I r (i _ _ _ _ q)⟩
theorem NmOk.each {e : Expr} {i : Nat} {es : List Expr} (h : NmOk X e i) : assignEach (e :: es) X.env = (false, assign e X.env) :: assignEach es X.env := by
  obtain ⟨x, pos, rfl, _⟩ := h
  rfl
inductive NmsOk (X : Cx) : List Expr → List Nat → Prop
  | nil : NmsOk X [] []
  | cons {e : Expr} {i : Nat} {es : List Expr} {is : List Nat} : NmOk X e i → NmsOk X es is → NmsOk X (e :: es) (i :: is)
def gNs (is : List Nat) : TGs := fun vs σ H Q => vs.length = is.length ∧ Q (setL is vs σ) H
theorem NmsOk.pgs (hN : X.N.Nodup) : ∀ {es : List Expr} {is : List Nat}, NmsOk X es is → PGs X es (gNs is)
  | [], [], .nil => impGs pgs_nil fun vs σ H Q h => by
    cases vs with
    | nil => exact ⟨rfl, h.2⟩
    | cons v vs => exact absurd h.1 (by simp)
  | e :: es, i :: is, .cons h1 h2 => impGs (pgs_cons (h1.pg hN) (NmsOk.pgs hN h2) (by rw [h1.each]; rfl)) fun vs σ H Q h => by
    cases vs with
    | nil => exact absurd h.1 (by simp)
    | cons v vs => exact ⟨v, vs, rfl, by have := h.1; simpa using this, h.2⟩
theorem NmsOk.each : ∀ {es : List Expr} {is : List Nat}, NmsOk X es is → (assignEach es X.env).length = is.length ∧ (assignEach es X.env).findIdx? (·.1) = none
  | [], [], .nil => ⟨rfl, rfl⟩
  | e :: es, i :: is, .cons h1 h2 => by
    obtain ⟨q1, q2⟩ := h2.each
    rw [h1.each]
    refine ⟨by simp [q1], ?_⟩
    rw [List.findIdx?_cons, q2]
    rfl
theorem g_one {e : Expr} {i : Nat} (hN : X.N.Nodup) (h : NmOk X e i) : PG X e (gZ Z (.one i)) := by
  refine impG (h.pg hN) fun v σ H Q ⟨b, ads, p, ρ, ρ', r, s, e, q⟩ => ?_
  cases e
  exact q _ (s.set r) fun j hj => by
    rw [List.getElem?_set, if_neg (by intro z; exact hj (by simp [tgL, z]))]
theorem g_many {k : Nat} {es : List Expr} {is : List Nat} {pos : Pos} {W : WX} {n : Nat} (C : Cok Z n X W) (h : NmsOk X es is) : PG X (.Tuple es k pos) (gZ Z (.many is)) := by
  obtain ⟨h1, h2⟩ := h.each
  refine impG (pg_tup C.calm (h.pgs C.nd) h1 h2) fun v σ H Q ⟨b, ads, p, ρ, ρ', r, s, e, q⟩ => ?_
  cases p with
  | tup ps =>
    obtain ⟨a, vs, ex, hq, rl⟩ := r.tup
    obtain ⟨s', hl⟩ := s.setMany rl e
    exact ⟨a, vs, ex, by rw [C.K]; exact hq, hl, hl, q _ s' fun j hj => setL_out hj⟩
  | _ => simp [setT] at e
theorem wipe_at {σ : L2.St} {i : Nat} : ∀ {vs : List Nat}, (wipe σ vs)[i]? = if i ∈ vs ∧ i < σ.length then some none else σ[i]?
  | [] => by simp [wipe]
  | v :: vs => by
    rw [wipe, List.getElem?_set, wipe_length]
    by_cases h : v = i
    · subst h
      rw [if_pos rfl]
      by_cases hl : v < σ.length
      · simp [hl]
      · rw [if_neg hl, if_neg (fun z => hl z.2), List.getElem?_eq_none (by omega)]
    · rw [if_neg h, wipe_at]
      have e : i ∈ v :: vs ↔ i ∈ vs := by simp [Ne.symm h]
      simp only [e]
theorem wipeS_at {ρ : Sl} {i : Nat} : ∀ {vs : List Nat}, (wipeS ρ vs)[i]? = if i ∈ vs ∧ i < ρ.length then some none else ρ[i]?
  | [] => by simp [wipeS]
  | v :: vs => by
    have hl : ∀ us : List Nat, (wipeS ρ us).length = ρ.length := fun us => by
      induction us with
      | nil => rfl
      | cons u us ih => rw [wipeS, List.length_set, ih]
    rw [wipeS, List.getElem?_set, hl]
    by_cases h : v = i
    · subst h
      rw [if_pos rfl]
      by_cases hl : v < ρ.length
      · simp [hl]
      · rw [if_neg hl, if_neg (fun z => hl z.2), List.getElem?_eq_none (by omega)]
    · rw [if_neg h, wipeS_at]
      have e : i ∈ v :: vs ↔ i ∈ vs := by simp [Ne.symm h]
      simp only [e]
theorem wipeS_length {ρ : Sl} : ∀ vs : List Nat, (wipeS ρ vs).length = ρ.length
  | [] => rfl
  | u :: us => by rw [wipeS, List.length_set, wipeS_length]
theorem SlotR.wipe {ρ : Sl} {σ : L2.St} (s : SlotR Z H b ads ρ σ) (vs : List Nat) : SlotR Z H b ads (wipeS ρ vs) (L2.wipe σ vs) where
  len := by rw [wipeS_length, wipe_length]; exact s.len
  at_ := fun i p e => by
    rw [wipeS_at] at e
    split at e
    · cases e
    · rename_i hn
      obtain ⟨v, e1, r⟩ := s.at_ i p e
      exact ⟨v, by rw [wipe_at, if_neg (by rw [← s.len]; exact hn)]; exact e1, r⟩
theorem wipe_eq {σ σ' : L2.St} {vs is : List Nat} (h : ∀ i, i ∉ is → σ'[i]? = (L2.wipe σ vs)[i]?) (hl : σ'.length = σ.length) (hs : ∀ i ∈ is, i ∈ vs) : L2.wipe σ' vs = L2.wipe σ vs := by
  refine List.ext_getElem? fun i => ?_
  rw [wipe_at, wipe_at, hl]
  split
  · rfl
  · rename_i hn
    by_cases hi : i ∈ is
    · have q : ¬ i < σ.length := fun z => hn ⟨hs i hi, z⟩
      rw [List.getElem?_eq_none (by omega), List.getElem?_eq_none (by omega)]
    · rw [h i hi, wipe_at, if_neg hn]

def WF : WX := fun _ _ _ _ => False
theorem Cok.blk {k : Nat} (C : Cok Z k X W) (s : Shared) (H : Hp) (scope : Scope) (cenv : Env) (fp : List Addr) : Cok Z k (X.blk s H scope cenv fp) WF where
  prog := C.prog
  w := C.w
  K := C.K
  mg := C.mg
  base := C.base
  calm := C.calm
  nd := C.nd
  takes := fun u s' h => by
    obtain ⟨a, B, sI, pins, σ, H, cls, d, e, I, nb, up, sky, na, os, ag, w⟩ := h
    exact w.elim
  room := C.room
  own := fun _ _ h => h.elim
theorem Aft.wr {d : Addr} {o : HO} (f : Aft H ads H' ads') (h : H d = none) : Aft H ads (upd H' d o) ads' where
  keep := fun a u e n => by rw [upd_ne (ne_of_none e h)]; exact f.keep a u e n
  tr := fun a u e => by rw [upd_ne (ne_of_none e h)]; exact f.tr a u e
  le := f.le
  old := f.old
  dead := f.dead
  new := f.new
end
end Zk
-- Zk17
set_option maxHeartbeats 4000000
namespace Zk
open PySem PySem.Spec L2

section
variable {Z : Wd} {W : WX} {X : Cx} {H H' : Hp} {b : Ban} {ads ads' : Ads}
theorem okB_some {r : R PV} {c : Bool} {M : Store} (h : r.okB = some (c, M)) : r = .ok (.bl c) M := by
  unfold R.okB at h
  split at h
  · cases h; rfl
  · cases h
theorem val_some {r : R PV} {v : PV} {M : Store} (h : r.val = some (v, M)) : r = .ok v M := by
  unfold R.val at h
  split at h
  · cases h; rfl
  · cases h
theorem lcTurn_yes {tg : Tg} {own : List Nat} {ρ : Sl} {cond elt : Sl → Store → R PV} {x : PV} {M M' : Store} {y : Option PV} (h : lcTurn tg own ρ cond elt x M = some (y, M')) :
    ∃ ρ', setT tg x (wipeS ρ own) = some ρ' ∧ ((∃ M2 v, cond ρ' M = .ok (.bl true) M2 ∧ elt ρ' M2 = .ok v M' ∧ y = some v) ∨ (cond ρ' M = .ok (.bl false) M' ∧ y = none)) := by
  unfold lcTurn at h
  cases q : setT tg x (wipeS ρ own) with
  | none => rw [q] at h; cases h
  | some ρ' =>
    rw [q] at h
    dsimp only at h
    refine ⟨ρ', rfl, ?_⟩
    cases q1 : (cond ρ' M).okB with
    | none => rw [q1] at h; cases h
    | some cm =>
      obtain ⟨c, M2⟩ := cm
      rw [q1] at h
      cases c with
      | true =>
        dsimp only at h
        cases q2 : (elt ρ' M2).val with
        | none => rw [q2] at h; cases h
        | some vm =>
          obtain ⟨v, M3⟩ := vm
          rw [q2] at h
          cases h
          exact .inl ⟨M2, v, okB_some q1, val_some q2, rfl⟩
      | false =>
        cases h
        exact .inr ⟨okB_some q1, rfl⟩
theorem notIn_ads {D : Addr} {o : HO} (f : Aft H ads H' ads') (h : H D = some o) (n : some D ∉ ads) : some D ∉ ads' := (f.fz (b := fun _ => False) h ⟨fun z => z, n⟩).2
theorem most_lt {n : Nat} (h : n < mostLen) : n < sizeLine := Nat.lt_trans h (by decide)
/-- the work of a list comprehension by its turns -/
theorem lc_of {σ : L2.St} {Q : VK} {ik : ItK} {tg : Tg} {own : List Nat} {di dc de : Sl → Store → R PV} (ht : ∀ i ∈ tgL tg, i ∈ own)
    (h : tE Z W (fun ρ M => (di ρ M).bind fun w M1 => match walkV ik (bargs w) with
      | none => .bad
      | some items => lcEnd (lcLoop (lcTurn tg own ρ dc de) items [] M1)) σ H Q) : tLc (tI Z W ik di) (gZ Z tg) (tT Z WF dc) (tE Z WF de) own σ H Q := by
  obtain ⟨b, ads, M, ρ, st, sl, h⟩ := h
  refine ⟨b, ads, M, ρ, st, sl, ?_⟩
  dsimp only at h
  cases q : di ρ M with
  | bad => rw [q] at h; exact h
  | exc x M1 => rw [q] at h; exact h
  | ok w M1 =>
    rw [q] at h
    have h : EndE Z W σ H b ads Q (match walkV ik (bargs w) with
      | none => .bad
      | some items => lcEnd (lcLoop (lcTurn tg own ρ dc de) items [] M1)) := h
    cases hw : walkV ik (bargs w) with
    | none => rw [hw] at h; exact h.elim
    | some items =>
      rw [hw] at h
      dsimp only at h
      refine ⟨items, hw, fun H1 ads1 J f1 st1 it D hD => ?_⟩
      cases hl : lcLoop (lcTurn tg own ρ dc de) items [] M1 with
      | none => rw [hl] at h; exact h.elim
      | some yM =>
        obtain ⟨ys, M2⟩ := yM
        rw [hl] at h
        have h : EndE Z W σ H b ads Q (.ok (.lst ys) M2) := h
        have sl1 : SlotR Z (upd H1 D (.lst [])) (bar b D) ads1 ρ σ := (sl.aft f1).mv (mv_bar hD)
        have nD : some D ∉ ads1 := (st1.fresh hD).2
        have nb : ¬ b D := (st1.fresh hD).1
        refine ⟨fun i m H2 => m = items.length - i ∧ i ≤ items.length ∧ ∃ ads2 M3 acc vs, Aft H1 ads1 H2 ads2 ∧ Mv (upd H1 D (.lst [])) (bar b D) ads1 H2 (bar b D) ads2 ∧ StoR Z H2 (bar b D) ads2 M3 ∧ some D ∉ ads2 ∧ H2 D = some (.lst vs) ∧
          RpL Z H2 (bar b D) ads2 acc vs ∧ lcLoop (lcTurn tg own ρ dc de) (items.drop i) acc M3 = some (ys, M2), ⟨items.length, rfl, Nat.zero_le _, ads1, M1, [], [], Aft.laid hD, Mv.refl, st1.bar hD, nD, upd_same, RpL.nil, hl⟩, ?_⟩
        rintro i m H2 ⟨rfl, hi, ads2, M3, acc, vs, a2, v2, st2, n2, hD2, r2, l2⟩
        by_cases hlt : i < items.length
        · have e1 : items.drop i = items[i] :: items.drop (i + 1) := List.drop_eq_getElem_cons hlt
          rw [e1, lcLoop] at l2
          refine .inr ⟨it.go i H2 _ _ ((mv_bar hD).trans v2) hlt, fun H3 => i + 1 ≤ items.length ∧ ∃ ads2 M3 acc vs, Aft H1 ads1 H3 ads2 ∧ Mv (upd H1 D (.lst [])) (bar b D) ads1 H3 (bar b D) ads2 ∧ StoR Z H3 (bar b D) ads2 M3 ∧ some D ∉ ads2 ∧ H3 D = some (.lst vs) ∧
            RpL Z H3 (bar b D) ads2 acc vs ∧ lcLoop (lcTurn tg own ρ dc de) (items.drop (i + 1)) acc M3 = some (ys, M2), fun H3 q3 => ⟨items.length - (i + 1), by omega, rfl, q3⟩, fun x H3 y3 => ?_⟩
          obtain ⟨k3, r3⟩ := it.yld i H2 _ _ M3 _ x H3 ((mv_bar hD).trans v2) st2 (List.getElem?_eq_getElem hlt) y3
          have a23 : Aft H2 ads2 H3 ads2 := Aft.kept k3
          have st3 := st2.keep k3
          cases hf : lcTurn tg own ρ dc de items[i] M3 with
          | none => rw [hf] at l2; cases l2
          | some yM' =>
            obtain ⟨y, M4⟩ := yM'
            rw [hf] at l2
            obtain ⟨ρ', e2, hcase⟩ := lcTurn_yes hf
            have sl3 : SlotR Z H3 (bar b D) ads2 ρ σ := (sl1.mv v2).aft a23
            refine ⟨bar b D, ads2, items[i], wipeS ρ own, ρ', r3, sl3.wipe own, e2, fun σ' sl' out => ⟨?_, ?_⟩⟩
            · refine wipe_eq (is := tgL tg) out ?_ ht
              rw [← sl'.len]
              have : ρ'.length = (wipeS ρ own).length := by
                cases tg with
                | one j => cases e2; simp [setS]
                | many is =>
                  have gen : ∀ (is : List Nat) (ps : List PV) (ρ ρ' : Sl), setMany is ps ρ = some ρ' → ρ'.length = ρ.length := by
                    intro is
                    induction is with
                    | nil => intro ps ρ ρ' e; cases ps <;> simp [setMany] at e; rw [e]
                    | cons j is ih =>
                      intro ps ρ ρ' e
                      cases ps with
                      | nil => simp [setMany] at e
                      | cons p ps => rw [ih ps _ _ e]; simp [setS]
                  simp only [setT] at e2
                  split at e2
                  · exact gen _ _ _ _ e2
                  · cases e2
              rw [this, wipeS_length]; exact sl.len
            · rcases hcase with ⟨M5, v, hc, he, rfl⟩ | ⟨hc, rfl⟩
              · refine ⟨bar b D, ads2, M3, ρ', st3, sl', ?_⟩
                rw [hc]
                refine ⟨true, rfl, fun H4 ads4 f4 st4 => ?_⟩
                dsimp only
                rw [if_pos rfl]
                refine ⟨bar b D, ads4, M5, ρ', st4, sl'.aft f4, ?_⟩
                rw [he]
                intro H5 ads5 yv f5 st5 r5
                have f35 := f4.trans f5
                have f25 := a23.trans f35
                have hD5 : H5 D = some (.lst vs) := f25.keep D _ hD2 n2
                have n5 : some D ∉ ads5 := notIn_ads f25 hD2 n2
                dsimp only at l2
                split at l2
                · rename_i hlen
                  have r5' := RpL.aft f25 _ _ r2
                  refine ⟨vs, hD5, most_lt (by rw [← r2.length]; exact hlen), hlt, ads5, M4, acc ++ [v], vs ++ [yv], (a2.trans f25).wr hD, (v2.trans f25.mv).trans (mv_wr (.inr rfl)), st5.wr (.inr rfl), n5, upd_same, ?_, l2⟩
                  exact RpL.mv (mv_wr (.inr rfl)) _ _ (RpL.append r5' (RpL.cons r5 RpL.nil))
                · cases l2
              · refine ⟨bar b D, ads2, M3, ρ', st3, sl', ?_⟩
                rw [hc]
                refine ⟨false, rfl, fun H4 ads4 f4 st4 => ?_⟩
                dsimp only
                rw [if_neg (by decide)]
                have f24 := a23.trans f4
                exact ⟨hlt, ads4, M4, acc, vs, a2.trans f24, v2.trans f24.mv, st4, notIn_ads f24 hD2 n2, f24.keep D _ hD2 n2, RpL.aft f24 _ _ r2, l2⟩
        · have ei : i = items.length := by omega
          subst ei
          rw [List.drop_length, lcLoop] at l2
          cases l2
          refine .inl ⟨it.stop H2 _ _ ((mv_bar hD).trans v2), h H2 ads2 (.ref D) (f1.trans a2) st2.unbar ?_⟩
          simp only [Rp]
          exact ⟨D, vs, rfl, ⟨nb, n2⟩, hD2, RpL.mv mv_un _ _ r2⟩
/-- no test -/
theorem pts_none : PTs X [] (tT Z WF fun _ M => .ok (.bl true) M) := ⟨fun pins s σ H Q I ⟨b, ads, M, ρ, st, sl, c, e, h⟩ => by
  cases e
  exact pts_nil.run pins s σ H Q I (h H ads Aft.refl st)⟩
theorem s_lc {k : Nat} {elt tgE iter : Expr} {ifs : List Expr} {scope : Scope} {own : List (Str × Nat)} {pos : Pos} {ik : ItK} {tg : Tg} {di dc de : Sl → Store → R PV} (C : Cok Z k X W) (hi : PI X tgE iter (tI Z W ik di)) (ok : BlkOk X.N X.env.scope scope own) (ht : ∀ i ∈ tgL tg, i ∈ own.map (·.2))
    (hg : ∀ (s : Shared) (H : Hp) (C : Addr) (cl : List (Str × Addr)) (fp : List Addr), PG (X.blk s H scope (compEnvC scope cl C X.env) fp) tgE (gZ Z tg)) (hc : ∀ (s : Shared) (H : Hp) (C : Addr) (cl : List (Str × Addr)) (fp : List Addr), PTs (X.blk s H scope (compEnvC scope cl C X.env) fp) ifs (tT Z WF dc))
    (he : ∀ (s : Shared) (H : Hp) (C : Addr) (cl : List (Str × Addr)) (fp : List Addr), PE (X.blk s H scope (compEnvC scope cl C X.env) fp) elt (tE Z WF de)) (hs : ∀ x, foldedSetIterable iter X.env x = pure x) :
    PE X (.ListComp elt [⟨tgE, iter, ifs, 0⟩] scope pos) (tE Z W fun ρ M => (di ρ M).bind fun w M1 => match walkV ik (bargs w) with
      | none => .bad
      | some items => lcEnd (lcLoop (lcTurn tg (own.map (·.2)) ρ dc de) items [] M1)) :=
  impE (pe_lc C.calm C.nd hi ok hg hc he hs) fun σ H Q h => lc_of ht h
end
end Zk
-- Zk18
set_option maxHeartbeats 4000000
namespace Zk
open PySem PySem.Spec L2

section
variable (Z : Wd) (W : WX)
def EndS (D : Ends) (H : Hp) (b : Ban) (ads : Ads) : RS → Prop
  | .nx ρ M => ∀ H' ads' σ', Aft H ads H' ads' → StoR Z H' b ads' M → SlotR Z H' b ads' ρ σ' → D.nx σ' H'
  | .rt v M => ∀ H' ads' x, Aft H ads H' ads' → StoR Z H' b ads' M → Rp Z H' b ads' v x → D.rt x H'
  | .bk ρ M => ∀ H' ads' σ', Aft H ads H' ads' → StoR Z H' b ads' M → SlotR Z H' b ads' ρ σ' → D.bk σ' H'
  | .ct ρ M => ∀ H' ads' σ', Aft H ads H' ads' → StoR Z H' b ads' M → SlotR Z H' b ads' ρ σ' → D.ct σ' H'
  | .exc x ρ M => ∀ H' ads' cls d σ', Aft H ads H' ads' → StoR Z H' b ads' M → XR Z H' b ads' x cls d → SlotR Z H' b ads' ρ σ' → W cls d σ' H'
  | .bad => False
/-- a statement's reading -/
def tS (d : Sl → Store → RS) : TS := fun D σ H => ∃ b ads M ρ, StoR Z H b ads M ∧ SlotR Z H b ads ρ σ ∧ EndS Z W D H b ads (d ρ M)
end
theorem impS {X : Cx} {e : Stmt} {t t' : TS} (h : PS X e t) (i : ∀ D σ H, t' D σ H → t D σ H) : PS X e t' := ⟨fun pins s σ H Q I q => h.run pins s σ H Q I (i _ _ _ q)⟩
theorem impSs {X : Cx} {e : List Stmt} {t t' : TS} (h : PSs X e t) (i : ∀ D σ H, t' D σ H → t D σ H) : PSs X e t' := ⟨fun pins s σ H Q I q => h.run pins s σ H Q I (i _ _ _ q)⟩
section
variable {Z : Wd} {W : WX} {X : Cx} {k : Nat} {H H' : Hp} {b : Ban} {ads ads' : Ads} {D : Ends} {st : Stmt} {rest : List Stmt} {e o i : Expr} {pos pos' : Pos} {d d' : Sl → Store → RS} {da db dc : Sl → Store → R PV} {T : Tabs}
theorem EndS.aft {r : RS} (f : Aft H ads H' ads') (h : EndS Z W D H b ads r) : EndS Z W D H' b ads' r := by
  cases r with
  | nx ρ M => exact fun H2 a2 x g s r => h H2 a2 x (f.trans g) s r
  | rt v M => exact fun H2 a2 x g s r => h H2 a2 x (f.trans g) s r
  | bk ρ M => exact fun H2 a2 x g s r => h H2 a2 x (f.trans g) s r
  | ct ρ M => exact fun H2 a2 x g s r => h H2 a2 x (f.trans g) s r
  | exc x ρ M => exact fun H2 a2 c d σ g s r q => h H2 a2 c d σ (f.trans g) s r q
  | bad => exact h
/-- an expression ahead, then the rest -/
theorem EndS.ofE {r : R PV} {ρ : Sl} {σ : L2.St} {f : PV → Store → RS} (sl : SlotR Z H b ads ρ σ) (h : EndS Z W D H b ads (r.toS ρ f)) :
    EndE Z W σ H b ads (fun x H1 => ∃ ads1 v M1, Aft H ads H1 ads1 ∧ StoR Z H1 b ads1 M1 ∧ Rp Z H1 b ads1 v x ∧ EndS Z W D H1 b ads1 (f v M1)) r := by
  cases r with
  | ok v M => exact fun H1 a1 x g s p => ⟨a1, v, M, g, s, p, EndS.aft g h⟩
  | exc x M => exact fun H1 a1 c dd g s p => h H1 a1 c dd σ g s p (sl.aft g)
  | bad => exact h
theorem EndS.ofA {r : R PV} {ρ : Sl} {σ : L2.St} {f : PV → Store → RS} (sl : SlotR Z H b ads ρ σ) (h : EndS Z W D H b ads (r.toS ρ f)) :
    EndA Z W σ H b ads (fun xs H1 => ∃ ads1 v M1, Aft H ads H1 ads1 ∧ StoR Z H1 b ads1 M1 ∧ RpL Z H1 b ads1 (bargs v) xs ∧ EndS Z W D H1 b ads1 (f v M1)) r := by
  cases r with
  | ok v M => exact fun H1 a1 x g s p => ⟨a1, v, M, g, s, p, EndS.aft g h⟩
  | exc x M => exact fun H1 a1 c dd g s p => h H1 a1 c dd σ g s p (sl.aft g)
  | bad => exact h
theorem EndS.ofT {r : R PV} {ρ : Sl} {σ : L2.St} {f : PV → Store → RS} (hf : ∀ v M, (∀ c, v ≠ .bl c) → f v M = .bad) (sl : SlotR Z H b ads ρ σ) (h : EndS Z W D H b ads (r.toS ρ f)) :
    EndT Z W σ H b ads (fun c H1 => ∃ ads1 M1, Aft H ads H1 ads1 ∧ StoR Z H1 b ads1 M1 ∧ EndS Z W D H1 b ads1 (f (.bl c) M1)) r := by
  cases r with
  | ok v M =>
    by_cases k : ∃ c, v = .bl c
    · obtain ⟨c, rfl⟩ := k
      exact ⟨c, rfl, fun H1 a1 g s => ⟨a1, M, g, s, EndS.aft g h⟩⟩
    · have e := hf v M fun c q => k ⟨c, q⟩
      have h' : EndS Z W D H b ads (f v M) := h
      rw [e] at h'; exact h'.elim
  | exc x M => exact fun H1 a1 c dd g s p => h H1 a1 c dd σ g s p (sl.aft g)
  | bad => exact h
theorem EndS.then {r : RS} {f : Sl → Store → RS} (h : EndS Z W D H b ads (r.then f)) :
    EndS Z W { D with nx := fun σ1 H1 => ∃ ads1 ρ1 M1, Aft H ads H1 ads1 ∧ StoR Z H1 b ads1 M1 ∧ SlotR Z H1 b ads1 ρ1 σ1 ∧ EndS Z W D H1 b ads1 (f ρ1 M1) } H b ads r := by
  cases r with
  | nx ρ M => exact fun H1 a1 x g s p => ⟨a1, ρ, M, g, s, p, EndS.aft g h⟩
  | rt v M => exact h
  | bk ρ M => exact h
  | ct ρ M => exact h
  | exc x ρ M => exact h
  | bad => exact h
theorem EndS.mono {D' : Ends} {r : RS} (h : EndS Z W D H b ads r) (h1 : ∀ σ H, D.nx σ H → D'.nx σ H) (h2 : ∀ σ H, D.rt σ H → D'.rt σ H) (h3 : ∀ σ H, D.bk σ H → D'.bk σ H) (h4 : ∀ σ H, D.ct σ H → D'.ct σ H) : EndS Z W D' H b ads r := by
  cases r with
  | nx ρ M => exact fun H1 a1 x g s p => h1 _ _ (h H1 a1 x g s p)
  | rt v M => exact fun H1 a1 x g s p => h2 _ _ (h H1 a1 x g s p)
  | bk ρ M => exact fun H1 a1 x g s p => h3 _ _ (h H1 a1 x g s p)
  | ct ρ M => exact fun H1 a1 x g s p => h4 _ _ (h H1 a1 x g s p)
  | exc x ρ M => exact h
  | bad => exact h

theorem s_nil : PSs X [] (tS Z W fun ρ M => .nx ρ M) := impSs pss_nil fun D σ H ⟨b, ads, M, ρ, st, sl, h⟩ => h H ads σ Aft.refl st sl
theorem s_cons (h1 : PS X st (tS Z W d)) (h2 : PSs X rest (tS Z W d')) : PSs X (st :: rest) (tS Z W fun ρ M => (d ρ M).then d') :=
  impSs (pss_cons h1 h2) fun D σ H ⟨b, ads, M, ρ, st, sl, h⟩ => ⟨b, ads, M, ρ, st, sl, h.then.mono (fun σ1 H1 ⟨ads1, ρ1, M1, f1, st1, sl1, h1⟩ => ⟨b, ads1, M1, ρ1, st1, sl1, h1⟩) (fun _ _ h => h) (fun _ _ h => h) (fun _ _ h => h)⟩
theorem s_expr (he : PE X e (tE Z W da)) (hs : swapsWith e none pos.line X.env = pure false) : PS X (.Expr e pos) (tS Z W fun ρ M => (da ρ M).toS ρ fun _ M1 => .nx ρ M1) :=
  impS (ps_expr he hs) fun D σ H ⟨b, ads, M, ρ, st, sl, h⟩ => ⟨b, ads, M, ρ, st, sl, (EndS.ofE sl h).mono fun x H1 ⟨ads1, v, M1, f1, st1, r1, h1⟩ => h1 H1 ads1 σ Aft.refl st1 (sl.aft f1)⟩
theorem s_set {x : Str} {n : Nat} (C : Cok Z k X W) (hn : NmOk X (.Name x pos') n) (he : PE X e (tE Z W da)) (hs : swapsWith e (some (.Name x pos')) pos.line X.env = pure false) : PS X (.Assign [.Name x pos'] e pos) (tS Z W fun ρ M => (da ρ M).toS ρ fun v M1 => .nx (setS ρ n v) M1) := by
  have key : PS X (.Assign [.Name x pos'] e pos) (tAsg (tE Z W da) (gName n)) := by
    obtain ⟨y, p, ey, h1, h2⟩ := hn
    cases ey
    rcases h2 with h2 | ⟨h2, h3⟩
    · exact ps_set C.nd h1 (.inl h2) he hs (.inr h2)
    · exact ps_set C.nd h1 (.inr h2) he hs (.inl h3)
  exact impS key fun D σ H ⟨b, ads, M, ρ, st, sl, h⟩ => ⟨b, ads, M, ρ, st, sl, (EndS.ofE sl h).mono fun x H1 ⟨ads1, v, M1, f1, st1, r1, h1⟩ => h1 H1 ads1 _ Aft.refl st1 ((sl.aft f1).set r1)⟩
theorem s_ret (he : PE X e (tE Z W da)) : PS X (.Return (some e) pos) (tS Z W fun ρ M => (da ρ M).toS ρ fun v M1 => .rt v M1) :=
  impS (ps_ret he) fun D σ H ⟨b, ads, M, ρ, st, sl, h⟩ => ⟨b, ads, M, ρ, st, sl, (EndS.ofE sl h).mono fun x H1 ⟨ads1, v, M1, f1, st1, r1, h1⟩ => h1 H1 ads1 x Aft.refl st1 r1⟩
theorem s_retN : PS X (.Return none pos) (tS Z W fun _ M => .rt .non M) := impS ps_retN fun D σ H ⟨b, ads, M, ρ, st, sl, h⟩ => h H ads .non Aft.refl st rp_non
theorem s_pass : PS X (.Pass pos) (tS Z W fun ρ M => .nx ρ M) := impS ps_pass fun D σ H ⟨b, ads, M, ρ, st, sl, h⟩ => h H ads σ Aft.refl st sl
theorem s_cont : PS X (.Continue pos) (tS Z W fun ρ M => .ct ρ M) := impS ps_continue fun D σ H ⟨b, ads, M, ρ, st, sl, h⟩ => h H ads σ Aft.refl st sl
theorem s_never : PS X st (tS Z W fun _ _ => .bad) := impS ps_never fun D σ H ⟨b, ads, M, ρ, st, sl, h⟩ => h
def ifS (f g : Sl → Store → RS) (ρ : Sl) (v : PV) (M : Store) : RS := match v with
  | .bl true => f ρ M
  | .bl false => g ρ M
  | _ => .bad
theorem s_if {c : Expr} {a a' : List Stmt} (hc : PT X c (tT Z W dc)) (h1 : PSs X a (tS Z W d)) (h2 : PSs X a' (tS Z W d')) : PS X (.If c a a' pos) (tS Z W fun ρ M => (dc ρ M).toS ρ fun v M1 => match v with
      | .bl true => d ρ M1
      | .bl false => d' ρ M1
      | _ => .bad) :=
  impS (ps_if hc h1 h2) fun D σ H ⟨b, ads, M, ρ, st, sl, h⟩ => ⟨b, ads, M, ρ, st, sl, (EndS.ofT (fun v M hv => by
    cases v with
    | bl c => exact (hv c rfl).elim
    | _ => rfl) sl h).mono fun c H1 ⟨ads1, M1, f1, st1, h1⟩ => by
      cases c with
      | true => exact ⟨b, ads1, M1, ρ, st1, sl.aft f1, h1⟩
      | false => exact ⟨b, ads1, M1, ρ, st1, sl.aft f1, h1⟩⟩
theorem s_for {tgE iter : Expr} {body : List Stmt} {tg : Tg} {ik : ItK} (C : Cok Z k X W) (hi : PI X tgE iter (tI Z W ik da)) (hg : PG X tgE (gZ Z tg)) (hb : PSs X body (tS Z W d)) (hs : ∀ x, foldedSetIterable iter X.env x = pure x) :
    PS X (.For tgE iter body [] pos) (tS Z W fun ρ M => (da ρ M).toS ρ fun w M1 => match walkV ik (bargs w) with
      | some items => forLoop tg d items ρ M1
      | none => .bad) := by
  refine impS (ps_for C.own C.calm hi hg hb hs) fun D σ H ⟨b, ads, M, ρ, st, sl, h⟩ => ⟨b, ads, M, ρ, st, sl, ?_⟩
  dsimp only at h
  cases q : da ρ M with
  | bad => rw [q] at h; exact h
  | exc x M1 => rw [q] at h; exact fun H1 a1 c dd g s p => h H1 a1 c dd σ g s p (sl.aft g)
  | ok w M1 =>
    rw [q] at h
    have h : EndS Z W D H b ads (match walkV ik (bargs w) with
      | some items => forLoop tg d items ρ M1
      | none => .bad) := h
    cases hw : walkV ik (bargs w) with
    | none => rw [hw] at h; exact h.elim
    | some items =>
      rw [hw] at h
      dsimp only at h
      refine ⟨items, hw, fun H1 ads1 J f1 st1 it => ?_⟩
      refine ⟨fun i m σ2 H2 => m = items.length - i ∧ i ≤ items.length ∧ ∃ ads2 M2 ρ2, Mv H1 b ads1 H2 b ads2 ∧ StoR Z H2 b ads2 M2 ∧ SlotR Z H2 b ads2 ρ2 σ2 ∧ EndS Z W D H2 b ads2 (forLoop tg d (items.drop i) ρ2 M2), ⟨items.length, rfl, Nat.zero_le _, ads1, M1, ρ, Mv.refl, st1, sl.aft f1, EndS.aft f1 h⟩, ?_⟩
      rintro i m σ2 H2 ⟨rfl, hi, ads2, M2, ρ2, v2, st2, sl2, h2⟩
      by_cases hlt : i < items.length
      · have e1 : items.drop i = items[i] :: items.drop (i + 1) := List.drop_eq_getElem_cons hlt
        rw [e1, forLoop] at h2
        refine .inr ⟨it.go i H2 _ _ v2 hlt, fun σ3 H3 => i + 1 ≤ items.length ∧ ∃ ads3 M3 ρ3, Mv H1 b ads1 H3 b ads3 ∧ StoR Z H3 b ads3 M3 ∧ SlotR Z H3 b ads3 ρ3 σ3 ∧ EndS Z W D H3 b ads3 (forLoop tg d (items.drop (i + 1)) ρ3 M3), fun σ3 H3 q3 => ⟨items.length - (i + 1), by omega, rfl, q3⟩, fun x H3 y3 => ?_⟩
        obtain ⟨k3, r3⟩ := it.yld i H2 _ _ M2 _ x H3 v2 st2 (List.getElem?_eq_getElem hlt) y3
        have a23 : Aft H2 ads2 H3 ads2 := Aft.kept k3
        cases hst : setT tg items[i] ρ2 with
        | none => rw [hst] at h2; exact h2.elim
        | some ρ3 =>
          rw [hst] at h2
          dsimp only at h2
          refine ⟨b, ads2, items[i], ρ2, ρ3, r3, sl2.aft a23, hst, fun σ' sl' _ => ⟨b, ads2, M2, ρ3, st2.keep k3, sl', ?_⟩⟩
          have h3 := EndS.aft a23 h2
          cases hb : d ρ3 M2 with
          | nx ρ4 M4 =>
            rw [hb] at h3
            exact fun H4 ads4 σ4 f4 st4 sl4 => ⟨hlt, ads4, M4, ρ4, (v2.trans a23.mv).trans f4.mv, st4, sl4, EndS.aft f4 h3⟩
          | ct ρ4 M4 =>
            rw [hb] at h3
            exact fun H4 ads4 σ4 f4 st4 sl4 => ⟨hlt, ads4, M4, ρ4, (v2.trans a23.mv).trans f4.mv, st4, sl4, EndS.aft f4 h3⟩
          | bk ρ4 M4 => rw [hb] at h3; exact h3
          | rt v M4 => rw [hb] at h3; exact h3
          | exc x ρ4 M4 => rw [hb] at h3; exact h3
          | bad => rw [hb] at h3; exact h3
      · have ei : i = items.length := by omega
        subst ei
        rw [List.drop_length, forLoop] at h2
        exact .inl ⟨it.stop H2 _ _ v2, h2 H2 ads2 σ2 Aft.refl st2 sl2⟩
theorem s_while {c : Expr} {body : List Stmt} {fuel : Nat} (C : Cok Z k X W) (hc : PT X c (tT Z W dc)) (hb : PSs X body (tS Z W d)) : PS X (.While c body [] pos) (tS Z W fun ρ M => whileLoop dc d fuel ρ M) := by
  refine impS (ps_while C.own hc hb) fun D σ H ⟨b, ads, M, ρ, st, sl, h⟩ => ?_
  refine ⟨fun m σ2 H2 => ∃ ads2 M2 ρ2, StoR Z H2 b ads2 M2 ∧ SlotR Z H2 b ads2 ρ2 σ2 ∧ EndS Z W D H2 b ads2 (whileLoop dc d m ρ2 M2), ⟨fuel, ads, M, ρ, st, sl, h⟩, ?_⟩
  rintro m σ2 H2 ⟨ads2, M2, ρ2, st2, sl2, h2⟩
  cases m with
  | zero => exact h2.elim
  | succ m =>
    rw [whileLoop] at h2
    refine ⟨b, ads2, M2, ρ2, st2, sl2, ?_⟩
    cases q : dc ρ2 M2 with
    | bad => rw [q] at h2; exact h2
    | exc x M3 => rw [q] at h2; exact fun H1 a1 c dd g s p => h2 H1 a1 c dd σ2 g s p (sl2.aft g)
    | ok v M3 =>
      rw [q] at h2
      cases v with
      | bl cc =>
        refine ⟨cc, rfl, fun H3 ads3 f3 st3 => ?_⟩
        cases cc with
        | false => exact h2 H3 ads3 σ2 f3 st3 (sl2.aft f3)
        | true =>
          dsimp only at h2 ⊢
          rw [if_pos rfl]
          refine ⟨fun σ4 H4 => ∃ ads2 M2 ρ2, StoR Z H4 b ads2 M2 ∧ SlotR Z H4 b ads2 ρ2 σ4 ∧ EndS Z W D H4 b ads2 (whileLoop dc d m ρ2 M2), fun σ4 H4 q4 => ⟨m, Nat.lt_succ_self _, q4⟩, b, ads3, M3, ρ2, st3, sl2.aft f3, ?_⟩
          have h3 := EndS.aft f3 h2
          cases hb : d ρ2 M3 with
          | nx ρ4 M4 =>
            rw [hb] at h3
            exact fun H4 ads4 σ4 f4 st4 sl4 => ⟨ads4, M4, ρ4, st4, sl4, EndS.aft f4 h3⟩
          | ct ρ4 M4 =>
            rw [hb] at h3
            exact fun H4 ads4 σ4 f4 st4 sl4 => ⟨ads4, M4, ρ4, st4, sl4, EndS.aft f4 h3⟩
          | bk ρ4 M4 => rw [hb] at h3; exact h3
          | rt v M4 => rw [hb] at h3; exact h3
          | exc x ρ4 M4 => rw [hb] at h3; exact h3
          | bad => rw [hb] at h3; exact h3
      | _ => exact h2.elim
end
end Zk
-- Zk19
set_option maxHeartbeats 4000000
namespace Zk
open PySem PySem.Spec L2

section
variable {Z : Wd} {W : WX} {X : Cx} {k : Nat} {H H' : Hp} {b : Ban} {ads ads' : Ads} {D : Ends} {e o i : Expr} {pos pos' : Pos} {da db dc : Sl → Store → R PV} {T : Tabs}
theorem sw_att {f : Str} {l : Nat} {env : Env} : swapsWith e (some (.Attribute o f pos')) l env = pure false := by
  cases e <;> rfl
theorem sw_sub {l : Nat} {env : Env} : swapsWithSole [.Subscript o i pos'] e l env = pure false := by
  cases e <;> rfl
theorem sw_tup {es : List Expr} {n : Nat} {l : Nat} {env : Env} : swapsWithSole [.Tuple es n pos'] e l env = pure false := by
  cases e <;> rfl
def noComp : Expr → Bool
  | .ListComp .. => false
  | .SetComp .. => false
  | .DictComp .. => false
  | _ => true
theorem sw_no {t : Option Expr} {l : Nat} {env : Env} (h : noComp e = true) : swapsWith e t l env = pure false := by
  cases e <;> first | rfl | cases h
theorem putF_fld {f : Str} {v : PV} {y : V} (rv : Rp Z H b ads v y) : ∀ {fs : List (Str × V)} {ks : List Str} {ws : List PV}, fs.map (·.1) = ks → RpL Z H b ads ws (fs.map (·.2)) →
    (putF f y fs).map (·.1) = (fldPut f v ks ws).1 ∧ RpL Z H b ads (fldPut f v ks ws).2 ((putF f y fs).map (·.2))
  | [], ks, ws, h1, h2 => by
    subst h1
    rw [h2.length |> List.eq_nil_of_length_eq_zero]
    exact ⟨rfl, RpL.cons rv RpL.nil⟩
  | (g, x) :: fs, ks, ws, h1, h2 => by
    subst h1
    cases ws with
    | nil => exact absurd h2.length (by simp)
    | cons w ws =>
      obtain ⟨x', xs', e, r1, r2⟩ := h2.cons_inv
      simp only [List.map_cons, List.cons.injEq] at e
      obtain ⟨e1, e2⟩ := e
      subst e1 e2
      simp only [List.map_cons, fldPut, putF]
      by_cases hg : g = f
      · subst hg
        rw [if_pos rfl, if_pos rfl]
        exact ⟨rfl, RpL.cons rv r2⟩
      · rw [if_neg hg, if_neg (Ne.symm hg)]
        obtain ⟨q1, q2⟩ := putF_fld rv (fs := fs) rfl r2
        exact ⟨by simp [q1], RpL.cons r1 q2⟩
theorem setAV_spec {M M' : Store} {po v : PV} {x y : V} {f : Str} (hT : FldOk Z T) (st : StoR Z H b ads M) (ro : Rp Z H b ads po x) (rv : Rp Z H b ads v y) (h : setAV T po f v M = some M') :
    ∃ a C dx fs, x = .ref a ∧ H a = some (.ins C dx fs) ∧ Cls Z.K C ∧ NoAttr Z.K C f ∧ fs.length < 1000 ∧ Aft H ads (upd H a (.ins C dx (putF f y fs))) ads ∧ StoR Z (upd H a (.ins C dx (putF f y fs))) b ads M' := by
  cases po with
  | loc n =>
    simp only [setAV] at h
    split at h
    · rename_i c ks ws hm
      split at h
      · rename_i hc
        simp only [Bool.and_eq_true, decide_eq_true_eq] at hc
        cases h
        obtain ⟨a, ex, ea, dx, fs, eh, ek, rl⟩ := st.obj ro hm (by intro z; cases z)
        obtain ⟨c1, c2⟩ := hT c f hc.1
        obtain ⟨p1, p2⟩ := putF_fld (f := f) rv ek rl
        refine ⟨a, Z.cA c, dx, fs, ex, eh, c1, c2, ?_, Aft.write (ads_mem ea), st.write ea ⟨dx, _, upd_same, p1, RpL.aft (Aft.write (ads_mem ea)) _ _ p2⟩⟩
        have : fs.length = ks.length := by rw [← ek, List.length_map]
        omega
      · cases h
    · cases h
  | _ => simp [setAV] at h
theorem s_setA {f : Str} (C : Cok Z k X W) (hT : FldOk Z T) (ho : PE X o (tE Z W db)) (hv : PE X e (tE Z W da)) : PS X (.Assign [.Attribute o f pos'] e pos) (tS Z W fun ρ M => (da ρ M).toS ρ fun v M1 => (db ρ M1).toS ρ fun x M2 => match setAV T x f v M2 with
      | some M3 => .nx ρ M3
      | none => .bad) :=
  impS (ps_fld ho hv sw_att) fun D σ H ⟨b, ads, M, ρ, st, sl, h⟩ => ⟨b, ads, M, ρ, st, sl, (EndS.ofE sl h).mono fun y H1 ⟨ads1, v, M1, f1, st1, r1, h1⟩ =>
    ⟨b, ads1, M1, ρ, st1, sl.aft f1, (EndS.ofE (sl.aft f1) h1).mono fun x H2 ⟨ads2, po, M2, f2, st2, r2, h2⟩ => by
      cases q : setAV T po f v M2 with
      | none => rw [q] at h2; exact h2.elim
      | some M3 =>
        rw [q] at h2
        obtain ⟨a, Cc, dx, fs, ex, eh, c1, c2, hl, af, st3⟩ := setAV_spec hT st2 r2 (Rp.aft f2 _ _ r1) q
        exact ⟨a, Cc, dx, fs, ex, eh, by rw [C.K]; exact c1, by rw [C.K]; exact c2, hl, h2 _ ads2 σ af st3 (((sl.aft f1).aft f2).aft af)⟩⟩⟩
def gAtt (K : PySem.W.Frag) (n : Nat) (f : Str) : TG := fun v σ H Q => ∃ a C dx fs, σ[n]? = some (some (.ref a)) ∧ H a = some (.ins C dx fs) ∧ Cls K C ∧ NoAttr K C f ∧ fs.length < 1000 ∧ Q σ (upd H a (.ins C dx (putF f v fs)))
theorem pg_att {n : Nat} {x f : Str} {p : Pos} (hN : X.N[n]? = some x) (hv : Vis X.env.scope x) (hd : (x == ("__debug__" : Str)) = false) (hcd : (x == ("__classdict__" : Str)) = false) : PG X (.Attribute (.Name x p) f pos) (gAtt X.K n f) := by
  refine ⟨fun pins s σ H v u Q I r ⟨a, C, dx, fs, e1, e2, c1, c2, hl, q⟩ => ?_⟩
  rw [arm_assign_Attribute]
  have he : PE X (.Name x p) _ := pe_var hN hv hd hcd
  refine wpAny_bind (wpAny_holding (thn (he.run pins s σ H (fun y H1 => y = .ref a ∧ H1 = H) I ⟨.ref a, e1, rfl, rfl⟩) fun ov s1 ⟨y, H1, I1, r1, e3, e4⟩ => ?_))
  subst e3 e4
  obtain rfl : ov = Value.ref a := r1
  refine wpAny_bind (wpAny_standAt (wpAny_bind (wpAny_holding (setattr_ok I1 e2 c1 c2 hl r fun s2 I2 => ?_))))
  exact wpAny_release ⟨σ, _, I2, q⟩
def gAs (K : PySem.W.Frag) (n : Nat) : List Str → TGs
  | [] => gNil
  | f :: fs => gCons (gAtt K n f) (gAs K n fs)
inductive AtsOk (n : Nat) (x : Str) : List Expr → List Str → Prop
  | nil : AtsOk n x [] []
  | cons {p pos : Pos} {f : Str} {es : List Expr} {fs : List Str} : AtsOk n x es fs → AtsOk n x (.Attribute (.Name x p) f pos :: es) (f :: fs)
theorem AtsOk.pgs {n : Nat} {x : Str} (hN : X.N[n]? = some x) (hv : Vis X.env.scope x) (hd : (x == ("__debug__" : Str)) = false) (hcd : (x == ("__classdict__" : Str)) = false) : ∀ {es : List Expr} {fs : List Str}, AtsOk n x es fs → PGs X es (gAs X.K n fs)
  | _, _, .nil => pgs_nil
  | _, _, .cons h => pgs_cons (pg_att hN hv hd hcd) (AtsOk.pgs hN hv hd hcd h) rfl
theorem AtsOk.each {n : Nat} {x : Str} {env : Env} : ∀ {es : List Expr} {fs : List Str}, AtsOk n x es fs → (assignEach es env).length = fs.length ∧ (assignEach es env).findIdx? (·.1) = none
  | _, _, .nil => ⟨rfl, rfl⟩
  | _, _, .cons h => by
    obtain ⟨h1, h2⟩ := AtsOk.each (env := env) h
    refine ⟨by simp [assignEach, h1], ?_⟩
    simp only [assignEach]
    rw [List.findIdx?_cons, h2]
    rfl
theorem gAs_of {n : Nat} {po : PV} (C : Cok Z k X W) (hT : FldOk Z T) : ∀ {fs : List Str} {vs : List PV} {ys : List V} {H : Hp} {M M' : Store} {σ : L2.St} {Q : L2.St → Hp → Prop} {x : V}, σ[n]? = some (some x) → StoR Z H b ads M → Rp Z H b ads po x → RpL Z H b ads vs ys → setAs T po fs vs M = some M' →
    (∀ H', Aft H ads H' ads → StoR Z H' b ads M' → Q σ H') → ys.length = fs.length ∧ gAs X.K n fs ys σ H Q
  | [], [], ys, H, M, M', σ, Q, x, hs, st, ro, rl, h, q => by
    rw [rl.nil_inv]
    cases h
    exact ⟨rfl, rfl, q H Aft.refl st⟩
  | f :: fs, v :: vs, ys, H, M, M', σ, Q, x, hs, st, ro, rl, h, q => by
    obtain ⟨y, ys', e, r1, r2⟩ := rl.cons_inv
    subst e
    simp only [setAs] at h
    cases hm : setAV T po f v M with
    | none => rw [hm] at h; cases h
    | some M1 =>
      rw [hm] at h
      obtain ⟨a, Cc, dx, gs, ex, eh, c1, c2, hl, af, st3⟩ := setAV_spec hT st ro r1 hm
      subst ex
      obtain ⟨g1, g2⟩ := gAs_of C hT (Q := Q) hs st3 (Rp.aft af _ _ ro) (RpL.aft af _ _ r2) h fun H' f' s' => q H' (af.trans f') s'
      exact ⟨by simp [g1], y, ys', rfl, a, Cc, dx, gs, hs, eh, by rw [C.K]; exact c1, by rw [C.K]; exact c2, hl, g2⟩
  | [], v :: vs, ys, H, M, M', σ, Q, x, hs, st, ro, rl, h, q => by simp [setAs] at h
  | f :: fs, [], ys, H, M, M', σ, Q, x, hs, st, ro, rl, h, q => by simp [setAs] at h
def notTup : Expr → Bool
  | .Tuple _ _ _ => false
  | _ => true
theorem sws_no {ts : List Expr} {n : Nat} {p : Pos} {env : Env} (h : notTup e = true) : swappedStores [.Tuple ts n p] e env = pure none := by
  cases e <;> first | rfl | cases h
theorem s_asgA {n kk : Nat} {x : Str} {es : List Expr} {fs : List Str} {tp : Pos} (C : Cok Z k X W) (hT : FldOk Z T) (hN : X.N[n]? = some x) (hv : Vis X.env.scope x) (hd : (x == ("__debug__" : Str)) = false) (hcd : (x == ("__classdict__" : Str)) = false) (ha : AtsOk n x es fs) (hnt : notTup e = true) (he : PE X e (tE Z W da)) :
    PS X (.Assign [.Tuple es kk tp] e pos) (tS Z W fun ρ M => (da ρ M).toS ρ fun v M1 => match v, (ρ[n]?).bind id with
      | .tup vs, some x => (match setAs T x fs vs M1 with | some M2 => .nx ρ M2 | none => .bad)
      | _, _ => .bad) := by
  obtain ⟨q1, q2⟩ := ha.each (env := X.env)
  refine impS (ps_asg he (pg_tup C.calm (ha.pgs hN hv hd hcd) q1 q2) sw_tup (sws_no hnt)) fun D σ H ⟨b, ads, M, ρ, st, sl, h⟩ => ⟨b, ads, M, ρ, st, sl, (EndS.ofE sl h).mono fun y H1 ⟨ads1, v, M1, f1, st1, r1, h1⟩ => ?_⟩
  cases v with
  | tup vs =>
    cases ho : (ρ[n]?).bind id with
    | none => rw [ho] at h1; exact h1.elim
    | some po =>
      rw [ho] at h1
      dsimp only at h1
      cases hs : setAs T po fs vs M1 with
      | none => rw [hs] at h1; exact h1.elim
      | some M2 =>
        rw [hs] at h1
        have e : ρ[n]? = some (some po) := by
          cases r : ρ[n]? with
          | none => rw [r] at ho; cases ho
          | some o => rw [r] at ho; cases o with
            | none => cases ho
            | some y => cases ho; rfl
        obtain ⟨xo, exo, rxo⟩ := (sl.aft f1).at_ n po e
        obtain ⟨a, ys, ey, hq, rl⟩ := r1.tup
        obtain ⟨g1, g2⟩ := gAs_of C hT (Q := D.nx) exo st1 rxo rl hs fun H' f' s' => h1 H' ads1 σ f' s' ((sl.aft f1).aft f')
        exact ⟨a, ys, ey, by rw [C.K]; exact hq, g1, g2⟩
  | _ => exact h1.elim
def notSlc : Expr → Bool
  | .Slice .. => false
  | _ => true
theorem asg_sub {v : Value} {env : Env} (h : notSlc i = true) : assign (.Subscript o i pos) env v = (do
      let ov ← holding [v] (eval o env)
      let iv ← holding [v, ov] (eval i env)
      standAt pos
      holding [v, ov, iv] (setItem ov iv v)
      release [v, ov, iv] []) := by
  cases i <;> first | rfl | cases h
def setZ (P : Program) (w : World) (K : PySem.W.Frag) : TSet := fun o i v H Q => (setN P w K o i v H Q ∨ setK o i v H Q) ∨ rSetL o i v H Q
theorem ps_Z {n : Nat} (hr : Room n X.A) : PSet X (setZ X.prog X.w X.K) := PSet.or (PSet.or (ps_N hr) (ps_K hr)) set_list
theorem setIV_spec {M M' : Store} {po pi v : PV} {x z y : V} {Q : Hp → Prop} (st : StoR Z H b ads M) (ro : Rp Z H b ads po x) (ri : Rp Z H b ads pi z) (rv : Rp Z H b ads v y) (h : setIV po pi v M = some M')
    (q : ∀ H', Aft H ads H' ads → StoR Z H' b ads M' → Q H') : setZ Z.P Z.w Z.K x z y H Q := by
  cases po with
  | loc n =>
    simp only [setIV] at h
    split at h
    · rename_i xs hm
      split at h
      · rename_i j
        split at h
        · rename_i kk hj
          cases h
          obtain ⟨a, ex, ea, vs, hv, rl⟩ := st.obj ro hm (by intro z; cases z)
          refine .inr ⟨a, vs, j, kk, ex, ri.int, hv, ?_, ?_⟩
          · rw [← rl.length, ← ixN_eq]; exact hj
          · exact q _ (Aft.write (ads_mem ea)) (st.write ea ⟨vs.set kk y, upd_same, RpL.aft (Aft.write (ads_mem ea)) _ _ (RpL.set kk rl rv)⟩)
        · cases h
      · cases h
    · rename_i t ks ws hm
      split at h
      · rename_i hk
        simp only [Bool.and_eq_true, decide_eq_true_eq] at hk
        cases h
        cases t with
        | false =>
          obtain ⟨a, ex, ea, kvs, hv, e1, rl⟩ := st.obj ro hm (by intro z; cases z)
          obtain ⟨kk, ek⟩ := keyP hk.1
          subst ek e1
          have hz := rp_kP ri
          subst hz
          have hlen : kvs.length < sizeLine := by have := hk.2; rw [List.length_map] at this; exact most_lt this
          obtain ⟨p1, p2⟩ := dput_K kk rv rl
          exact .inl (.inr ⟨a, _, ex, DPut.k hv hlen, q _ (Aft.write (ads_mem ea)) (st.write ea ⟨_, upd_same, p1, RpL.aft (Aft.write (ads_mem ea)) _ _ p2⟩)⟩)
        | true =>
          obtain ⟨a, ex, ea, xs, vs, hd, ko, nks, rk, rw', hv⟩ := st.obj ro hm (by intro z; cases z)
          have dn : DctN Z H b ads xs ks ws := ⟨ko, nks, rk, vs, rw', hv⟩
          obtain ⟨ka, ez, nkh, dk⟩ := key_nkh ri hk.1
          subst ez
          have hlen : xs.length < sizeLine := by rw [dn.len.1]; exact most_lt hk.2
          refine .inl (.inl ⟨ka, a, xs, nk pi, ex, rfl, hd, dn.ks, nkh, dk, hlen, fun u o ru => ?_⟩)
          obtain ⟨g1, g2, g3, us, g4, g5⟩ := dn.put hk.1 ri rv ru
          refine q _ (Aft.write (ads_mem ea)) (st.write ea ⟨_, us, ⟨o, upd_same⟩, g1, g2, RpL.aft (Aft.write (ads_mem ea)) _ _ g3, RpL.aft (Aft.write (ads_mem ea)) _ _ g4, g5⟩)
      · cases h
    · cases h
  | _ => simp [setIV] at h
theorem s_setI (C : Cok Z k X W) (hns : notSlc i = true) (ho : PE X o (tE Z W db)) (hi : PE X i (tE Z W dc)) (hv : PE X e (tE Z W da)) : PS X (.Assign [.Subscript o i pos'] e pos) (tS Z W fun ρ M => (da ρ M).toS ρ fun v M1 => (db ρ M1).toS ρ fun x M2 => (dc ρ M2).toS ρ fun y M3 => match setIV x y v M3 with
      | some M4 => .nx ρ M4
      | none => .bad) :=
  impS (ps_asg hv (pg_sub ho hi (ps_Z C.room) fun v => asg_sub hns) sw_sub (by cases e <;> rfl)) fun D σ H ⟨b, ads, M, ρ, st, sl, h⟩ => ⟨b, ads, M, ρ, st, sl, (EndS.ofE sl h).mono fun y H1 ⟨ads1, v, M1, f1, st1, r1, h1⟩ =>
    ⟨b, ads1, M1, ρ, st1, sl.aft f1, (EndS.ofE (sl.aft f1) h1).mono fun x H2 ⟨ads2, po, M2, f2, st2, r2, h2⟩ =>
      ⟨b, ads2, M2, ρ, st2, (sl.aft f1).aft f2, (EndS.ofE ((sl.aft f1).aft f2) h2).mono fun z H3 ⟨ads3, pi, M3, f3, st3, r3, h3⟩ => by
        cases q : setIV po pi v M3 with
        | none => rw [q] at h3; exact h3.elim
        | some M4 =>
          rw [q] at h3
          rw [C.prog, C.w, C.K]
          exact setIV_spec st3 (Rp.aft f3 _ _ r2) r3 (Rp.aft (f2.trans f3) _ _ r1) q fun H' f' s' => h3 H' ads3 σ f' s' ((((sl.aft f1).aft f2).aft f3).aft f')⟩⟩⟩
theorem s_asg {kk : Nat} {es : List Expr} {is : List Nat} {tp : Pos} (C : Cok Z k X W) (hn : NmsOk X es is) (hnt : notTup e = true) (he : PE X e (tE Z W da)) :
    PS X (.Assign [.Tuple es kk tp] e pos) (tS Z W fun ρ M => (da ρ M).toS ρ fun v M1 => match v with
      | .tup vs => (match setMany is vs ρ with | some ρ1 => .nx ρ1 M1 | none => .bad)
      | _ => .bad) := by
  refine impS (ps_asg he (g_many C hn) sw_tup (sws_no hnt)) fun D σ H ⟨b, ads, M, ρ, st, sl, h⟩ => ⟨b, ads, M, ρ, st, sl, (EndS.ofE sl h).mono fun y H1 ⟨ads1, v, M1, f1, st1, r1, h1⟩ => ?_⟩
  cases v with
  | tup vs =>
    dsimp only at h1
    cases hs : setMany is vs ρ with
    | none => rw [hs] at h1; exact h1.elim
    | some ρ1 =>
      rw [hs] at h1
      exact ⟨b, ads1, .tup vs, ρ, ρ1, r1, sl.aft f1, hs, fun σ' sl' _ => h1 H1 ads1 σ' Aft.refl st1 sl'⟩
  | _ => exact h1.elim
end
end Zk
-- Zk20
set_option maxHeartbeats 4000000
namespace Zk
open PySem PySem.Spec L2

section
variable {Z : Wd} {W : WX} {X : Cx} {k : Nat} {H H' : Hp} {b : Ban} {ads ads' : Ads} {e a c : Expr} {pos p pos' : Pos} {da db dc : Sl → Store → R PV} {T : Tabs} {call : Calls}
theorem s_notT {j : Nat} {p' : Pos} (ha : PE X a (tE Z W da)) : PE X (.Compare a [.IsNot] [.Constant (.bool true) j p'] pos) (tE Z W (notR da)) :=
  impE (pe_cmpR op_isnot_bl ha (pe_bl (b := true)) rfl) fun σ H Q ⟨bn, ads, M, ρ, st, sl, h⟩ => ⟨bn, ads, M, ρ, st, sl, h.bind.mono fun x H1 ⟨ads1, v, M1, f1, st1, r1, h1⟩ => by
    cases v with
    | bl c =>
      refine ⟨c, true, r1.bl, rfl, ?_⟩
      have q := EndE.now h1 st1 rp_bl
      cases c <;> exact q
    | _ => exact h1.elim⟩
theorem t_notT {j : Nat} {p' : Pos} (ha : PE X a (tE Z W da)) : PT X (.Compare a [.IsNot] [.Constant (.bool true) j p'] pos) (tT Z W (notR da)) :=
  impT (pt_cmpR op_isnot_bl ha (pe_bl (b := true)) rfl) fun σ H Q h => toT h fun Q' ⟨bn, ads, M, ρ, st, sl, h⟩ => ⟨bn, ads, M, ρ, st, sl, h.bind.mono fun x H1 ⟨ads1, v, M1, f1, st1, r1, h1⟩ => by
    cases v with
    | bl c =>
      refine ⟨c, true, r1.bl, rfl, ?_⟩
      have q := EndE.now h1 st1 rp_bl
      cases c <;> exact q
    | _ => exact h1.elim⟩
def rNeT : R2 := fun x y H Q => ∃ a b ks ls, x = .ref a ∧ y = .ref b ∧ H a = some (.dK ks) ∧ H b = some (.dK ls) ∧ (∀ p ∈ ks, p.2 = V.bl true) ∧ (∀ p ∈ ls, p.2 = V.bl true) ∧ Q (.bl (!(ks.length == ls.length && ks.all fun p => (valV ls p.1).isSome))) H
theorem valV_mem {κ : Type} [DecidableEq κ] {k : κ} {v : V} : ∀ {ls : List (κ × V)}, valV ls k = some v → ∃ p ∈ ls, p.2 = v
  | [], h => by simp [valV] at h
  | p :: ls, h => by
    by_cases e : p.1 = k
    · subst e
      refine ⟨p, List.mem_cons_self, ?_⟩
      have : valV (p :: ls) p.1 = some p.2 := by simp [valV]
      rw [this] at h; exact Option.some.inj h
    · rw [valV_neg e] at h
      obtain ⟨q, hq, r⟩ := valV_mem h
      exact ⟨q, List.mem_cons_of_mem _ hq, r⟩
theorem hits_T {A : Around} {s : Shared} {ls : List (Key × V)} {vb : List (Key × Value)} (rb : KV ls vb) (hl : ∀ p ∈ ls, p.2 = V.bl true) {ks : List (Key × V)} {va : List (Key × Value)} (ra : KV ks va) :
    (∀ p ∈ ks, p.2 = V.bl true) → PySem.W.KeqHits A s vb va (ks.all fun p => (valV ls p.1).isSome) := by
  unfold KV at ra
  induction ra with
  | nil => intro _; exact .nil
  | @cons p q ps qs h t ih =>
    intro hp
    obtain ⟨h1, h2⟩ := h
    obtain ⟨k, v⟩ := q
    have h1' : p.1 = k := h1
    subst h1'
    have rr := rb.val p.1
    cases hv : valV ls p.1 with
    | none =>
      rw [hv] at rr
      have := rr.none_of
      simp only [List.all_cons, hv, Option.isSome_none, Bool.false_and]
      exact .miss this
    | some y =>
      rw [hv] at rr
      obtain ⟨u, hu, ru⟩ := rr.some_of
      simp only [List.all_cons, hv, Option.isSome_some, Bool.true_and]
      obtain ⟨q, hq, eq⟩ := valV_mem hv
      have e1 : y = V.bl true := by rw [← eq]; exact hl q hq
      have e2 : p.2 = V.bl true := hp p List.mem_cons_self
      have h2 : RelV p.2 v := h2
      rw [e2] at h2
      rw [e1] at ru
      have := PySem.W.KeqHits.hit (A := A) (s := s) (k := p.1) (v := v) (e := true) (r := qs) hu (eqAt_same h2 ru rfl) (ih fun p' hm => hp p' (List.mem_cons_of_mem _ hm))
      simpa using this
theorem op_neT (hu : X.A.units < cLine) : OpR X (compareOp .NotEq) rNeT := by
  intro pins s σ H x y v u Q I rx ry h
  obtain ⟨a, b, ks, ls, rfl, rfl, ea, eb, h1, h2, q⟩ := h
  obtain rfl : v = Value.ref a := rx
  obtain rfl : u = Value.ref b := ry
  obtain ⟨_, ya, va, ra, da⟩ := (show ObjOk X.prog X.w H s.heap a (.dK ks) from I.hok a _ ea)
  obtain ⟨_, yb, vb, rb, db⟩ := (show ObjOk X.prog X.w H s.heap b (.dK ls) from I.hok b _ eb)
  exact PySem.W.keq_ne (knd := mixKind X.prog X.w) ya yb da db hu (fun _ => hits_T rb h2 ra h1) (fin_bl I q (by rw [← ra.length, ← rb.length]))
theorem allT_all : ∀ {ws : List PV} {vs : List V}, allT ws = true → RpL Z H b ads ws vs → ∀ v ∈ vs, v = V.bl true
  | [], vs, _, r, v, hv => by rw [r.nil_inv] at hv; cases hv
  | w :: ws, vs, h, r, v, hv => by
    obtain ⟨x, xs, e, r1, r2⟩ := r.cons_inv
    subst e
    cases w with
    | bl c =>
      cases c with
      | false => simp [allT] at h
      | true =>
        simp only [allT] at h
        rcases List.mem_cons.mp hv with hv | hv
        · rw [hv]; exact r1.bl
        · exact allT_all h r2 v hv
    | _ => simp [allT] at h
theorem r_dne {σ : L2.St} {Q : VK} {M : Store} {p q : PV} {x y : V} (st : StoR Z H b ads M) (r1 : Rp Z H b ads p x) (r2 : Rp Z H b ads q y) (h : EndE Z W σ H b ads Q (R.ofB (dneV p q) M)) : rNeT x y H Q := by
  obtain ⟨v, ev⟩ := ofB_some h
  have now := nowB h ev st
  cases p with
  | dct t ks ws =>
    cases t with
    | true => simp [dneV] at ev
    | false =>
      cases q with
      | dct t' ks' ws' =>
        cases t' with
        | true => simp [dneV] at ev
        | false =>
          simp only [dneV] at ev
          split at ev
          · rename_i ht
            simp only [Bool.and_eq_true] at ht
            simp only [Rp] at r1 r2
            obtain ⟨a1, kvs, e1, _, k1, ek, l1⟩ := r1
            obtain ⟨a2, lvs, e2, _, k2, el, l2⟩ := r2
            subst ek el
            refine ⟨a1, a2, kvs, lvs, e1, e2, k1, k2, fun p hp => allT_all ht.1 l1 _ (List.mem_map.mpr ⟨p, hp, rfl⟩), fun p hp => allT_all ht.2 l2 _ (List.mem_map.mpr ⟨p, hp, rfl⟩), ?_⟩
            have hd : ∀ y : Key, (dget (kP y) (lvs.map fun p => kP p.1) ws').isSome = (valV lvs y).isSome := fun y => by
              obtain ⟨g1, g2⟩ := dget_K y l2
              cases e : dget (kP y) (lvs.map fun p => kP p.1) ws' with
              | none => rw [g2 e]; rfl
              | some w => obtain ⟨v, q, _⟩ := g1 w e; rw [q]; rfl
            have he : v = !(kvs.length == lvs.length && kvs.all fun p => (valV lvs p.1).isSome) := by
              rw [← Option.some.inj ev, List.length_map, List.length_map, List.all_map]
              congr 3
              funext p
              exact hd p.1
            rw [← he]
            exact now
          · cases ev
      | _ => simp [dneV] at ev
  | _ => simp [dneV] at ev
theorem s_dne (C : Cok Z k X W) (hm : behindInMarks .NotEq c = false) (ha : PE X a (tE Z W da)) (hb : PE X c (tE Z W db)) :
    PE X (.Compare a [.NotEq] [c] pos) (tE Z W fun ρ M => (da ρ M).bind fun x M1 => (db ρ M1).bind fun y M2 => R.ofB (dneV x y) M2) :=
  impE (pe_cmpR (op_neT C.room.units0) ha hb hm) fun σ H Q h => two h fun H bn ads M p q x y st r1 r2 h => r_dne st r1 r2 h
theorem t_dne (C : Cok Z k X W) (hm : behindInMarks .NotEq c = false) (ha : PE X a (tE Z W da)) (hb : PE X c (tE Z W db)) :
    PT X (.Compare a [.NotEq] [c] pos) (tT Z W fun ρ M => (da ρ M).bind fun x M1 => (db ρ M1).bind fun y M2 => R.ofB (dneV x y) M2) :=
  impT (pt_cmpR (op_neT C.room.units0) ha hb hm) fun σ H Q h => twoT h fun H bn ads M p q x y Q' st r1 r2 h => r_dne st r1 r2 h
theorem run_in {n : Nat} {A1 : Around} {f : Addr} {fd : FuncData} {ps : List Str} {sp : Sp} {E : L2.St → XK} {pins : List (Addr × Obj)} {σ : L2.St} {H : Hp} {s : Shared} {Q : VK} {us : List Value} {vs : List V} (sb : Sub X n A1) (F : FnOk X.prog X.w X.K X.mg X.base (L2.CX X.prog X.w) n f fd ps sp) (hb : Binds X.K fd ps []) (hx : PassesAt (L2.CX X.prog X.w) X σ (E σ))
    (I : Inv X pins σ H s) (r : Vals vs us) (h : sp vs H Q (E σ)) : wpAny (model X.prog X.w) A1 (PySem.call (.ref f) us) (EP X pins σ Q) X.xe s := by
  have hl : us.length = ps.length := by rw [← r.length]; exact F.len _ _ _ _ h
  have bb := hb s us I.kIn (by rw [List.append_nil]; exact hl)
  rw [List.append_nil] at bb
  have e0 : Env0 X.prog X.w X.K X.mg X.base A1 X.stack s H := by
    have e := I.env0
    exact ⟨by rw [sb.fr]; exact e.frames, e.mod, e.bs, e.bsz, e.funs, e.frf, e.hok, e.bare⟩
  refine wpAny_call (codeAny_mono (F.run A1 X.stack s H ⟨us, []⟩ us vs Q (E σ) sb.room e0 bb r h) fun r s' hq => ?_)
  cases r with
  | error e => exact hx pins H s e s' I hq
  | ok fl =>
    cases fl with
    | ret u => exact I.after hq
    | next => exact False.elim hq
    | brk => exact False.elim hq
    | cont => exact False.elim hq
theorem s_lenO (C : Cok Z (k + 1) X W) (F : FnsOk Z T call k) (TO : TabsOk Z T) (B : BltOk Z) (hg : Gl X "len") (hs : notStar e = true) (ha : PE X e (tE Z W da)) : PE X (.Call (.Name "len" p) [e] [] pos) (tE Z W fun ρ M => (da ρ M).bind fun x M1 => match methOf T x "__len__" M1 with
    | some f => lenEnd (callV true (call f) [x] M1)
    | none => .bad) := by
  refine ⟨fun pins s σ H Q I ⟨bn, ads, M, ρ, st, sl, h⟩ => ?_⟩
  have pa : PA X [e] _ := pa_cons ha pa_nil (starEach_cons hs)
  refine wpAny_Call_Name_kw (ld_blt I hg (by rw [C.mg]; exact B.free "len" (by decide +kernel)) boot_len ?_ (by decide +kernel) (by decide +kernel))
  refine PyProof.Rows.callWith_builtin1 (thn (pa.run pos pins s σ H (fun vs H1 => ∃ x, vs = [x] ∧ ∃ ads1 v M1, Aft H ads H1 ads1 ∧ StoR Z H1 bn ads1 M1 ∧ Rp Z H1 bn ads1 v x ∧ EndE Z W σ H1 bn ads1 Q (match methOf T v "__len__" M1 with
    | some f => lenEnd (callV true (call f) [v] M1)
    | none => .bad)) I ⟨bn, ads, M, ρ, st, sl, h.bind.mono fun x H1 q => ⟨x, rfl, q⟩⟩) fun us s1 ⟨vs, H1, I1, r1, x, ex, ads1, v, M1, f1, st1, rx, h1⟩ => ?_) (starEach_cons hs) rfl
  subst ex
  obtain ⟨u, rfl, ru⟩ := vals1 r1
  cases q : methOf T v "__len__" M1 with
  | none => rw [q] at h1; exact h1.elim
  | some f =>
    rw [q] at h1
    obtain ⟨c, a, dx, fs, exx, ea, l, em⟩ := meth_of st1 rx q
    subst exx
    obtain rfl : u = Value.ref a := ru
    obtain ⟨g1, g2, g3⟩ := TO.meth c _ f em
    rw [← C.K] at g1 g2 g3
    obtain ⟨mA, J, _⟩ := ins_get I1.hok ea
    obtain ⟨od, J, _⟩ := J.look
    obtain ⟨m, hF⟩ := I1.fr
    have hsp : spF Z (call f) [.ref a] H1 (fun y H2 => ∃ n : Int, y = .int n ∧ 0 ≤ n ∧ n < 1000000 ∧ Q (.int n) H2) (WE W σ) := by
      refine call_of (iso := true) st1 (RpL.cons rx RpL.nil) ?_
      dsimp only at h1
      cases hr : callV true (call f) [v] M1 with
      | bad => rw [hr] at h1; exact h1.elim
      | exc x M2 => rw [hr] at h1; exact h1
      | ok y M2 =>
        rw [hr] at h1
        cases y with
        | int n =>
          simp only [lenEnd] at h1
          split at h1
          · rename_i hn
            simp only [Bool.and_eq_true, decide_eq_true_eq] at hn
            exact fun H2 ads2 y f2 st2 r2 => ⟨n, r2.int, hn.1, hn.2, h1 H2 ads2 (.int n) f2 st2 rp_int⟩
          · exact h1.elim
        | _ => exact h1.elim
    have sb : Sub X k X.A.in1 := Sub.in1 ⟨C.room, rfl⟩
    have hFn : FnOk X.prog X.w X.K X.mg X.base (L2.CX X.prog X.w) k (Z.fA f) (Z.fd f) (Z.ps f) (spF Z (call f)) := by rw [C.prog, C.w, C.K, C.mg, C.base]; exact F.ok f
    refine PySem.W.len_K hF I1.ok.mod.kin J g2.at_ g2.fn (thn (run_in (vs := [.ref a]) (E := WE W) sb hFn g3 (passAt C.takes σ) I1 (.cons rfl .nil) hsp) fun u s2 ⟨y, H2, I2, ry, n, ey, h0, h1', hq⟩ => ?_)
    subst ey
    obtain ⟨t, rfl⟩ := ry
    exact ⟨⟨h0, by omega⟩, .int n, H2, I2.tok _, ⟨_, rfl⟩, hq⟩
end
end Zk
-- Zk21
set_option maxHeartbeats 4000000
namespace Zk
open PySem PySem.Spec L2

section
variable {Z : Wd} {W : WX} {X : Cx} {k : Nat} {H H' : Hp} {b : Ban} {ads ads' : Ads} {e a c kx vx : Expr} {pos p pos' : Pos} {da db dc : Sl → Store → R PV} {T : Tabs} {call : Calls}
/-- {} -/
theorem s_dct0 {m t : Bool} (C : Cok Z k X W) : PE X (.Dict [] [] pos) (tE Z W fun _ M => if m then .ok (.loc M.length) (M ++ [.dct t [] []]) else .ok (.dct t [] []) M) := by
  cases t with
  | false =>
    refine impE pe_dnewK fun σ H Q ⟨bn, ads, M, ρ, st, sl, h⟩ p hp => ?_
    cases m with
    | true => exact h _ (ads ++ [some p]) (.ref p) (Aft.push hp) (st.push hp ⟨[], upd_same, rfl, RpL.nil⟩) (rp_loc (by rw [← st.len]; exact app_eq))
    | false =>
      refine h _ ads (.ref p) (Aft.laid hp) (st.keep (keep_upd hp)) ?_
      simp only [Rp]
      exact ⟨p, [], rfl, st.fresh hp, upd_same, rfl, RpL.nil⟩
  | true =>
    refine impE pe_dnewN fun σ H Q ⟨bn, ads, M, ρ, st, sl, h⟩ p o hp => ?_
    rw [C.prog, C.w]
    cases m with
    | true => exact h _ (ads ++ [some p]) (.ref p) (Aft.push hp) (st.push hp ⟨[], [], ⟨o, upd_same⟩, rfl, rfl, RpL.nil, RpL.nil, .nil⟩) (rp_loc (by rw [← st.len]; exact app_eq))
    | false =>
      refine h _ ads (.ref p) (Aft.laid hp) (st.keep (keep_upd hp)) ?_
      simp only [Rp]
      exact ⟨p, [], [], rfl, st.fresh hp, ⟨o, upd_same⟩, rfl, rfl, RpL.nil, RpL.nil, .nil⟩
/-- a barred dict let free, as data or as a place of the store -/
theorem Aft.adopt {D : Addr} (f : Aft H ads H' ads') (h : H D = none) : Aft H ads H' (ads' ++ [some D]) where
  keep := f.keep
  tr := f.tr
  le := by have := f.le; simp; omega
  old := fun n a q e => by
    rw [app_lt (Nat.lt_of_lt_of_le q f.le)] at e
    exact f.old n a q e
  dead := fun n e => by
    have := f.dead n e
    rw [app_lt (lt_ads this)]; exact this
  new := fun n a q e => by
    rcases app_cases e with ⟨z, e⟩ | ⟨_, z⟩
    · exact f.new n a q e
    · cases z; exact h
theorem mv_adopt {D : Addr} : Mv H (bar b D) ads H b (ads ++ [some D]) where
  fz := fun a u e z => ⟨e, fun q => z.1 (.inl q), fun q => by
    rcases List.mem_append.mp q with q | q
    · exact z.2 q
    · simp at q; exact z.1 (.inr q)⟩
  le := by simp
  old := fun n a q e => by rwa [app_lt q] at e
  dead := fun n e => by rw [app_lt (lt_ads e)]; exact e
theorem StoR.adopt {M : Store} {D : Addr} {mo : MO} (s : StoR Z H (Zk.bar b D) ads M) (n : some D ∉ ads) (nb : ¬ b D) (r : MoR Z H b (ads ++ [some D]) mo D) : StoR Z H b (ads ++ [some D]) (M ++ [mo]) where
  len := by simp [s.len]
  at_ := fun n a e => by
    rcases app_cases e with ⟨z, e⟩ | ⟨z, e'⟩
    · obtain ⟨m, e1, q⟩ := s.at_ n a e
      exact ⟨m, by rw [app_lt (by rw [← s.len]; exact z)]; exact e1, q.mv mv_adopt fun o h => h⟩
    · subst z
      have e2 : D = a := Option.some.inj e'
      subst e2
      exact ⟨mo, by rw [s.len]; exact app_eq, r⟩
  dead := fun n e => by
    rcases app_cases e with ⟨z, e⟩ | ⟨_, e⟩
    · rw [app_lt (by rw [← s.len]; exact z)]; exact s.dead n e
    · cases e
  inj := fun n' m a e e' => by
    have no : ∀ i : Nat, ads[i]? = some (some D) → False := fun i q => n (ads_mem q)
    rcases app_cases e with ⟨z, e⟩ | ⟨z, e⟩ <;> rcases app_cases e' with ⟨z', e'⟩ | ⟨z', e'⟩
    · exact s.inj n' m a e e'
    · cases e'; exact (no n' e).elim
    · cases e; exact (no m e').elim
    · omega
  bt := fun a z => s.bt a (.inl z)
  nb := fun n a e => by
    rcases app_cases e with ⟨z, e⟩ | ⟨z, e⟩
    · exact fun q => s.nb n a e (.inl q)
    · cases e; exact nb
/-- {k: v} -/
def tDisp1 (P : Program) (w : World) (K : PySem.W.Frag) (tk tv : TE) : TE := fun σ H Q => ∀ p o, H p = none → tk σ (upd H p (DN P w p [] o)) fun x H1 => tv σ H1 fun y H2 => H2 p = some (DN P w p [] o) ∧ ∃ ka kk, x = .ref ka ∧ NkH K H2 kk (.ref ka) ∧ kk.depth ≤ 8 ∧
  ∀ u o', RelV y u → Q (.ref p) (upd H2 p (DN P w p [(kk, ka, u)] o'))
theorem pe_disp1 {n : Nat} {tk tv : TE} (hr : Room n X.A) (hk : PE X kx tk) (hv : PE X vx tv) : PE X (.Dict [some kx] [vx] pos) (tDisp1 X.prog X.w X.K tk tv) := by
  refine ⟨fun pins s σ H Q I q => ?_⟩
  have hn := I.hok.fresh (Nat.le_refl s.heap.objs.size)
  obtain ⟨ob, hob⟩ := dn_ok (P := X.prog) (w := X.w) (H' := H) (a := s.heap.objs.size) (beq_eq_false_iff_ne.mpr (Ne.symm (Nat.ne_of_lt I.big))) (Nat.zero_le _) (Heap.DictOfH.new s.heap)
  have I1 := I.laid (a := s.heap.objs.size) (o := DN X.prog X.w s.heap.objs.size [] ob) (h' := s.heap.push { cls := .type "dict", data := .dict #[] }) (t' := s.toks) (fun _ _ q => Heap.get?_push_of_some _ q) (Nat.le_refl _) hob
  have hsh := zip_pairTrees [some kx] [vx] X.env pos rfl rfl
  have hu : (nestedKind X.prog X.w).room X.A := by
    show X.A.units + 8 < cLine
    have := hr.un
    omega
  rw [arm_eval_Dict, hsh, dictDisplay_pairs _ (by simp [pairTrees]) (by simp [pairTrees])]
  refine wpAny_bind (wpAny_standAt (wpAny_bind (wpAny_subDictH (knd := nestedKind X.prog X.w) hu (by simp [pairTrees]) ?_)))
  refine pairTrees_cons_walk (thn (hk.run pins _ σ _ _ I1 (q _ ob hn)) fun u s1 ⟨x, H1, I2, rx, q1⟩ => thn (hv.run pins s1 σ H1 _ I2 q1) fun u2 s2 ⟨y, H2, I3, ry, e2, ka, kk, ex, hka, dk, q2⟩ => pairTrees_nil_walk ?_)
  subst ex
  obtain rfl : u = Value.ref ka := rx
  obtain ⟨z1, z2, dd⟩ := dn_of I3 (a := s.heap.objs.size) ⟨ob, e2⟩ (fun x hx => nomatch hx)
  refine ⟨[(kk, ka, u2)], ⟨rfl, rfl, ⟨NkH.is I3 kk _ _ hka rfl, dk⟩, True.intro⟩, dd, fun h' tk dd' hs => wpAny_pure ?_⟩
  have he : ∃ q, h'.get? s.heap.objs.size = some q := let ⟨q, _, _, hq, _⟩ := dd'; ⟨q, hq⟩
  obtain ⟨ob2, hob2⟩ := dn_ok (H' := upd H2 s.heap.objs.size (DN X.prog X.w s.heap.objs.size [(kk, ka, u2)] default)) z1 (by show 1 ≤ sizeLine; decide) dd'
  exact ⟨.ref s.heap.objs.size, _, d_write I3 (by rw [e2]; exact True.intro) hs he hob2, rfl, q2 u2 ob2 ry⟩
theorem XR.mv {x : Exn} {cls : Value} {d : Option Addr} {b' : Ban} (f : Mv H b ads H b' ads) (hb : ∀ a, b' a → b a) (h : XR Z H b ads x cls d) : XR Z H b' ads x cls d := by
  obtain ⟨h1, h2⟩ := h
  refine ⟨h1, ?_⟩
  cases e : x.f with
  | none => trivial
  | some q =>
    obtain ⟨g, p⟩ := q
    rw [e] at h2
    obtain ⟨a, v, e1, e2, e3, e4⟩ := h2
    exact ⟨a, v, e1, ⟨fun z => e2.1 (hb a z), e2.2⟩, e3, Rp.mv f _ _ e4⟩
theorem s_dct1 {m : Bool} (C : Cok Z k X W) (hk : PE X kx (tE Z W da)) (hv : PE X vx (tE Z W db)) : PE X (.Dict [some kx] [vx] pos) (tE Z W fun ρ M => (da ρ M).bind fun a M1 => (db ρ M1).bind fun b M2 => if keyOk true a then (if m then .ok (.loc M2.length) (M2 ++ [.dct true [a] [b]]) else .ok (.dct true [a] [b]) M2) else .bad) := by
  refine impE (pe_disp1 C.room hk hv) fun σ H Q ⟨bn, ads, M, ρ, st, sl, h⟩ p o hp => ⟨bar bn p, ads, M, ρ, st.bar hp, sl.mv (mv_bar hp), ?_⟩
  have nP : some p ∉ ads := (st.fresh hp).2
  have nB : ¬ bn p := (st.fresh hp).1
  dsimp only at h
  cases q1 : da ρ M with
  | bad => rw [q1] at h; exact h
  | exc x M1 => rw [q1] at h; exact fun H1 a1 cl d g s px => h H1 a1 cl d ((Aft.laid hp).trans g) s.unbar (px.mv mv_un fun a z => .inl z)
  | ok v M1 =>
    rw [q1] at h
    intro H1 ads1 x f1 st1 r1
    refine ⟨bar bn p, ads1, M1, ρ, st1, (sl.mv (mv_bar hp)).aft f1, ?_⟩
    have h : EndE Z W σ H bn ads Q ((db ρ M1).bind fun b M2 => if keyOk true v then (if m then .ok (.loc M2.length) (M2 ++ [.dct true [v] [b]]) else .ok (.dct true [v] [b]) M2) else .bad) := h
    cases q2 : db ρ M1 with
    | bad => rw [q2] at h; exact h
    | exc x M2 => rw [q2] at h; exact fun H2 a1 cl d g s px => h H2 a1 cl d ((Aft.laid hp).trans (f1.trans g)) s.unbar (px.mv mv_un fun a z => .inl z)
    | ok w M2 =>
      rw [q2] at h
      intro H2 ads2 y f2 st2 r2
      have f12 := f1.trans f2
      have hD2 : H2 p = some (DN Z.P Z.w p [] o) := by
        have := f12.keep p _ upd_same nP
        rw [C.prog, C.w] at this
        exact this
      have n2 : some p ∉ ads2 := notIn_ads f12 upd_same nP
      have h : EndE Z W σ H bn ads Q (if keyOk true v then (if m then .ok (.loc M2.length) (M2 ++ [.dct true [v] [w]]) else .ok (.dct true [v] [w]) M2) else .bad) := h
      split at h
      · rename_i hkey
        have r1' := Rp.aft f2 _ _ r1
        obtain ⟨ka, ex, hn, hd⟩ := key_nkh r1' hkey
        subst ex
        rw [C.prog, C.w, C.K]
        refine ⟨hD2, ka, nk v, rfl, hn, hd, fun u o' ru => ?_⟩
        have fa : Aft H ads (upd H2 p (DN Z.P Z.w p [(nk v, ka, u)] o')) ads2 := ((Aft.laid hp).trans f12).wr hp
        have mw : Mv H2 (bar bn p) ads2 (upd H2 p (DN Z.P Z.w p [(nk v, ka, u)] o')) (bar bn p) ads2 := mv_wr (.inr rfl)
        have st3 : StoR Z (upd H2 p (DN Z.P Z.w p [(nk v, ka, u)] o')) (bar bn p) ads2 M2 := st2.wr (.inr rfl)
        cases m with
        | true =>
          refine h _ (ads2 ++ [some p]) (.ref p) (fa.adopt hp) (st3.adopt n2 nB ⟨_, [y], ⟨o', upd_same⟩, ?_, rfl, RpL.cons (Rp.mv (mw.trans mv_adopt) _ _ r1') RpL.nil, RpL.cons (Rp.mv (mw.trans mv_adopt) _ _ r2) RpL.nil, .cons ru .nil⟩) (rp_loc (by rw [← st2.len]; exact app_eq))
          simp only [List.all_cons, List.all_nil, Bool.and_true]; exact hkey
        | false =>
          refine h _ ads2 (.ref p) fa st3.unbar ?_
          simp only [Rp]
          refine ⟨p, _, [y], rfl, ⟨nB, n2⟩, ⟨o', upd_same⟩, ?_, rfl, RpL.cons (Rp.mv (mw.trans mv_un) _ _ r1') RpL.nil, RpL.cons (Rp.mv (mw.trans mv_un) _ _ r2) RpL.nil, .cons ru .nil⟩
          simp only [List.all_cons, List.all_nil, Bool.and_true]; exact hkey
      · exact h.elim
/-- a list of pairs: key, its address, value -/
inductive PsOk (K : PySem.W.Frag) (H : Hp) : List V → List (NestedKey × Addr × V) → Prop
  | nil : PsOk K H [] []
  | cons {t ka : Addr} {kk : NestedKey} {y : V} {vs : List V} {ps : List (NestedKey × Addr × V)} : SqT K H t [.ref ka, y] → NkH K H kk (.ref ka) → kk.depth ≤ 8 → PsOk K H vs ps → PsOk K H (.ref t :: vs) ((kk, ka, y) :: ps)
def withU : List (NestedKey × Addr × V) → List Value → List (NestedKey × Addr × Value)
  | (k, a, _) :: ps, u :: us => (k, a, u) :: withU ps us
  | _, _ => []
theorem PsOk.real {pins : List (Addr × Obj)} {σ : L2.St} {H : Hp} {s : Shared} (I : Inv X pins σ H s) : ∀ {vs : List V} {ps : List (NestedKey × Addr × V)} {its : List Value}, PsOk X.K H vs ps → Vals vs its →
    ∃ (us : List Value) (Ts : Nat → Addr), Vals (ps.map (·.2.2)) us ∧ (withU ps us).length = its.length ∧ (∀ (j : Nat) k a u, (withU ps us)[j]? = some (k, a, u) → its[j]? = some (.ref (Ts j)) ∧ s.heap.IsTuple (Ts j) #[.ref a, u]) ∧ ∀ x ∈ withU ps us, NestedIs s.heap x.1 (.ref x.2.1) ∧ x.1.depth ≤ 8
  | _, _, _, .nil, .nil => ⟨[], fun _ => 0, .nil, rfl, fun j k a u h => by simp [withU] at h, fun x hx => by simp [withU] at hx⟩
  | _, _, _, .cons (t := t) (ka := ka) (kk := kk) hq hn hd hr, .cons (l₂ := its) ru rr => by
    obtain ⟨us, Ts, h1, h2, h3, h4⟩ := PsOk.real I hr rr
    obtain ⟨tv, rv, p, _⟩ := I.tuple hq
    cases rv with
    | cons ra rb =>
      cases rb with
      | cons rb rc =>
        cases rc
        rename_i w1 w2
        obtain rfl : w1 = Value.ref ka := ra
        refine ⟨w2 :: us, fun j => match j with | 0 => t | j + 1 => Ts j, .cons rb h1, by simp [withU, h2], fun j k a u h => ?_, fun x hx => ?_⟩
        · cases j with
          | zero =>
            simp [withU] at h
            obtain ⟨rfl, rfl, rfl⟩ := h
            cases ru
            exact ⟨rfl, p⟩
          | succ j =>
            simp only [withU, List.getElem?_cons_succ] at h
            simpa using h3 j k a u h
        · simp only [withU, List.mem_cons] at hx
          rcases hx with rfl | hx
          · exact ⟨NkH.is I kk _ _ hn rfl, hd⟩
          · exact h4 x hx
def rDP (P : Program) (w : World) (K : PySem.W.Frag) : List V → Hp → VK → Prop := fun xs H Q => ∃ a vs ps, xs = [.ref a] ∧ H a = some (.lst vs) ∧ PsOk K H vs ps ∧ ∀ us, Vals (ps.map (·.2.2)) us → ∀ p o, H p = none → Q (.ref p) (upd H p (DN P w p (storedAllH [] (withU ps us)) o))
theorem length_storedAllH : ∀ (ps xs : List (NestedKey × Addr × Value)), (storedAllH xs ps).length ≤ xs.length + ps.length
  | [], xs => by simp [storedAllH]
  | p :: ps, xs => by
    have h1 := length_storedAllH ps (storedH xs p.1 p.2.1 p.2.2)
    have h2 := length_storedH xs p.1 p.2.1 p.2.2
    have e : storedAllH xs (p :: ps) = storedAllH (storedH xs p.1 p.2.1 p.2.2) ps := rfl
    rw [e, List.length_cons]
    omega
theorem call_dictP {n : Nat} (hc : X.calm = true) (hr : Room n X.A) : CallR X (.type "dict") (rDP X.prog X.w X.K) := by
  intro pins s σ H xs us Q I r h
  obtain ⟨a, vs, ps, rfl, ha, hp, q⟩ := h
  obtain ⟨u, rfl, ru⟩ := vals1 r
  obtain rfl : u = Value.ref a := ru
  obtain ⟨its, nn, rv, ho, hz⟩ := I.lst ha
  obtain ⟨ws, Ts, h1, h2, h3, h4⟩ := hp.real I rv
  have hu : (nestedKind X.prog X.w).room X.A.in1.in1 := by
    show X.A.units + 1 + 1 + 8 < cLine
    have := hr.un
    omega
  have hl : its.length = vs.length := rv.length.symm
  have hlp : (withU ps ws).length = ((withU ps ws).map fun x => ((Value.ref x.2.1, x.2.2) : Value × Value)).length := by simp
  refine call_dict_pairsH (knd := nestedKind X.prog X.w) (ps := withU ps ws) (PairArg.list a its.toArray Ts ((withU ps ws).map fun x => (Value.ref x.2.1, x.2.2))) (I.ok.hd hc) hu ⟨⟨_, nn, ho, rfl, rfl, rfl⟩, ?_⟩ ?_ ?_ ?_ fun h' tk hd' hk => ?_
  · refine ⟨by simp [h2], fun j kk vv hj => ?_⟩
    rw [List.getElem?_map] at hj
    cases e : (withU ps ws)[j]? with
    | none => rw [e] at hj; cases hj
    | some x =>
      rw [e] at hj
      obtain ⟨g1, g2⟩ := h3 j x.1 x.2.1 x.2.2 e
      have hj : (Value.ref x.2.1, x.2.2) = (kk, vv) := Option.some.inj hj
      cases hj
      exact ⟨by simpa using g1, .inl g2⟩
  · refine ⟨hlp, fun i key v hrel => ?_⟩
    have hrel : ((withU ps ws).map fun x => ((Value.ref x.2.1, x.2.2) : Value × Value))[i]? = some (key, v) := hrel
    rw [List.getElem?_map] at hrel
    cases e : (withU ps ws)[i]? with
    | none => rw [e] at hrel; cases hrel
    | some x =>
      rw [e] at hrel
      have hrel : (Value.ref x.2.1, x.2.2) = (key, v) := Option.some.inj hrel
      cases hrel
      exact ⟨x.1, x.2.1, rfl, rfl⟩
  · intro h' hk x hx
    obtain ⟨g1, g2⟩ := h4 x hx
    exact ⟨NestedIs.at (fun b o vs n e _ => hk b o (Nat.ne_of_lt (Heap.lt_size e)) (by simp) e) _ _ g1, g2⟩
  · rw [← hlp, h2, hl]; exact hz
  · have z1 : (s.heap.objs.size == sysModules) = false := beq_eq_false_iff_ne.mpr (Ne.symm (Nat.ne_of_lt I.big))
    obtain ⟨ob, hob⟩ := dn_ok (H' := upd H s.heap.objs.size (DN X.prog X.w s.heap.objs.size (storedAllH [] (withU ps ws)) default)) z1 (by
      have := length_storedAllH (withU ps ws) []
      rw [h2, hl] at this
      simp at this
      omega) hd'
    refine ⟨.ref s.heap.objs.size, _, I.laid (a := s.heap.objs.size) (t' := tk) (h' := h') (fun b o e => hk b o (by simp) e) (Nat.le_refl _) hob, rfl, q ws h1 _ ob (I.hok.fresh (Nat.le_refl _))⟩
end
end Zk
-- Zk22
set_option maxHeartbeats 4000000
namespace Zk
open PySem PySem.Spec L2

section
variable {Z : Wd} {W : WX} {X : Cx} {k : Nat} {H H' : Hp} {b : Ban} {ads ads' : Ads} {e a c kx vx : Expr} {pos p pos' : Pos} {da db dc : Sl → Store → R PV} {T : Tabs} {call : Calls}
theorem pairs_ok : ∀ {xs : List PV} {prs : List (PV × PV)} {vs : List V}, pairsL xs = some prs → RpL Z H b ads xs vs → ∃ ps, PsOk Z.K H vs ps ∧ ∀ us, Vals (ps.map (·.2.2)) us → ∀ acc ks ws, DctN Z H b ads acc ks ws → DctN Z H b ads (storedAllH acc (withU ps us)) (putAll prs (ks, ws)).1 (putAll prs (ks, ws)).2
  | [], prs, vs, h, r => by
    cases h
    rw [r.nil_inv]
    exact ⟨[], .nil, fun us hu acc ks ws d => d⟩
  | x :: xs, prs, vs, h, r => by
    obtain ⟨v, vs', e, r1, r2⟩ := r.cons_inv
    subst e
    match x, h, r1 with
    | .tup [kp, vp], h, r1 =>
      simp only [pairsL] at h
      split at h
      · rename_i hk
        obtain ⟨prs', hp, ep⟩ := Option.map_eq_some_iff.mp h
        subst ep
        obtain ⟨ps, g1, g2⟩ := pairs_ok hp r2
        obtain ⟨t, ws, ev, hq, rl⟩ := r1.tup
        obtain ⟨xk, l1, e1, rk, rl1⟩ := rl.cons_inv
        obtain ⟨xv, l2, e2, rv, rl2⟩ := rl1.cons_inv
        rw [rl2.nil_inv] at e2
        subst e2 e1 ev
        obtain ⟨ka, ek, hn, hd⟩ := key_nkh rk hk
        subst ek
        refine ⟨(nk kp, ka, xv) :: ps, .cons hq hn hd g1, fun us hu acc ks ws d => ?_⟩
        cases hu with
        | cons hu1 hu2 => exact g2 _ hu2 _ _ _ (d.put hk rk rv hu1)
      · cases h
theorem rp_dct {p : Addr} {o : Obj} {xs : List (NestedKey × Addr × Value)} {ks ws : List PV} (hp : H p = none) {M : Store} (st : StoR Z H b ads M) (d : DctN Z H b ads xs ks ws) : Rp Z (upd H p (DN Z.P Z.w p xs o)) b ads (.dct true ks ws) (.ref p) := by
  obtain ⟨g1, g2, g3, vs, g4, g5⟩ := d
  simp only [Rp]
  exact ⟨p, xs, vs, rfl, st.fresh hp, ⟨o, upd_same⟩, g1, g2, RpL.aft (Aft.laid hp) _ _ g3, RpL.aft (Aft.laid hp) _ _ g4, g5⟩
theorem s_dctP (C : Cok Z k X W) (B : BltOk Z) (hg : Gl X "dict") (hs : notStar e = true) (ha : PE X e (tE Z W da)) : PE X (.Call (.Name "dict" p) [e] [] pos) (tE Z W fun ρ M => (da ρ M).bind fun v M1 => bltV .dctP [v] M1) := by
  refine s_t1 C B (by decide +kernel) (show bootBuiltins "dict" = some (.type "dict") from by decide +kernel) hg (by decide +kernel) (by decide +kernel) hs (call_dictP C.calm C.room) ha fun σ Q H bn ads M p x st r h => ?_
  rw [C.prog, C.w, C.K]
  cases p with
  | lst xs =>
    simp only [bltV] at h
    split at h
    · rename_i hl
      obtain ⟨a, vs, ex, hv, rl⟩ := r.lst
      cases hp : pairsL xs with
      | none => rw [hp] at h; exact h.elim
      | some prs =>
        rw [hp] at h
        obtain ⟨ps, g1, g2⟩ := pairs_ok hp rl
        refine ⟨a, vs, ps, by rw [ex], hv, g1, fun us hu p o hp => ?_⟩
        have d := g2 us hu [] [] [] ⟨rfl, rfl, RpL.nil, [], RpL.nil, .nil⟩
        exact h _ ads (.ref p) (Aft.laid hp) (st.keep (keep_upd hp)) (rp_dct hp st d)
    · exact h.elim
  | _ => exact h.elim
/-- an item is put in a dict of tuples -/
theorem put_N {n : Nat} {pins : List (Addr × Obj)} {σ : L2.St} {H : Hp} {s : Shared} {E : Value → Shared → Prop} {D ka : Addr} {o : Obj} {xs : List (NestedKey × Addr × Value)} {kk : NestedKey} {v : V} {r : Value} {Q : Unit → Shared → Prop} (hr : Room n X.A) (I : Inv X pins σ H s) (hD : H D = some (DN X.prog X.w D xs o)) (hk : KsOk X.K H xs) (hz : xs.length < sizeLine)
    (hka : NkH X.K H kk (.ref ka)) (hd : kk.depth ≤ 8) (rv : RelV v r) (h : ∀ s' o', Inv X pins σ (upd H D (DN X.prog X.w D (storedH xs kk ka r) o')) s' → Q () s') : wpAny (model X.prog X.w) X.A (dictSet D (.ref ka) r) Q E s := by
  obtain ⟨z1, z2, dd⟩ := dn_of I ⟨o, hD⟩ hk
  have hu : (nestedKind X.prog X.w).room X.A := by
    show X.A.units + 8 < cLine
    have := hr.un
    omega
  refine wpAny_dictSet_heap (hsz := z2) hu ⟨NkH.is I kk _ _ hka rfl, hd⟩ dd fun h' dd' hs => ?_
  have he : ∃ q, h'.get? D = some q := let ⟨q, _, _, hq, _⟩ := dd'; ⟨q, hq⟩
  obtain ⟨ob, hob⟩ := dn_ok (H' := upd H D (DN X.prog X.w D (storedH xs kk ka r) default)) z1 (Nat.le_trans (length_storedH _ _ _ _) hz) dd'
  exact h _ ob (d_write I (by rw [hD]; exact True.intro) hs he hob)
def tDcN (P : Program) (w : World) (K : PySem.W.Frag) (wi : TI) (g : TG) (tt : TT) (tk tv : TE) (vs : List Nat) : TE := fun σ H Q => wi σ H fun J H1 => ∀ D o, H1 D = none → ∃ Wv : Nat → Nat → Hp → Prop, (∃ m, Wv 0 m (upd H1 D (DN P w D [] o))) ∧ ∀ i m H, Wv i m H →
  (J.stop i H ∧ Q (.ref D) H) ∨ (J.go i H ∧ ∃ Nx : Hp → Prop, (∀ H', Nx H' → ∃ m', m' < m ∧ Wv (i + 1) m' H') ∧ ∀ x H', J.yld i H x H' → g x (wipe σ vs) H' fun σ2 H2 => wipe σ2 vs = wipe σ vs ∧ tt σ2 H2 fun b H3 =>
    if b = true then tk σ2 H3 fun y H4 => tv σ2 H4 fun z H5 => ∃ xs o ka kk, y = .ref ka ∧ H5 D = some (DN P w D xs o) ∧ KsOk K H5 xs ∧ xs.length < sizeLine ∧ NkH K H5 kk (.ref ka) ∧ kk.depth ≤ 8 ∧ ∀ u o', RelV z u → Nx (upd H5 D (DN P w D (storedH xs kk ka u) o')) else Nx H3)
theorem dcN_core {n : Nat} {pins : List (Addr × Obj)} {s : Shared} {σ : L2.St} {H : Hp} {Q : VK} {kx vx tg iter : Expr} {ifs : List Expr} {scope : Scope} {own : List (Str × Nat)} {pos pos' : Pos} {wi : TI} {g : TG} {tt : TT} {tk tv : TE} {use : Option (Value → Sem Unit)} {Qf : Value → Shared → Prop}
    (hr : Room n X.A) (hcalm : X.calm = true) (hnd : X.N.Nodup) (I : Inv X pins σ H s) (hit : PI X tg iter wi) (blk : BlkOk X.N X.env.scope scope own)
    (hG : ∀ (s : Shared) (H : Hp) (C : Addr) (cl : List (Str × Addr)) (fp : List Addr), PG (X.blk s H scope (compEnvC scope cl C X.env) fp) tg g) (hT : ∀ (s : Shared) (H : Hp) (C : Addr) (cl : List (Str × Addr)) (fp : List Addr), PTs (X.blk s H scope (compEnvC scope cl C X.env) fp) ifs tt)
    (hK : ∀ (s : Shared) (H : Hp) (C : Addr) (cl : List (Str × Addr)) (fp : List Addr), PE (X.blk s H scope (compEnvC scope cl C X.env) fp) kx tk)
    (hV : ∀ (s : Shared) (H : Hp) (C : Addr) (cl : List (Str × Addr)) (fp : List Addr), PE (X.blk s H scope (compEnvC scope cl C X.env) fp) vx tv) (hfold : ∀ x, foldedSetIterable iter X.env x = pure x)
    (h : tDcN X.prog X.w X.K wi g tt tk tv (own.map (·.2)) σ H Q)
    (fin0 : ∀ D C s' m H', Inv X pins σ H' s' → Q (.ref D) H' → s'.heap.Ns C m → FpOk X pins H' C → compPost (model X.prog X.w) X.A X.xe use Qf (.ref D) C (.ok .next) s') :
    wpAny (model X.prog X.w) X.A (comprehension (.DictComp kx vx [⟨tg, iter, ifs, 0⟩] scope pos) scope X.env pos' newDict false (eval iter X.env) use) Qf X.xe s := by
  have hcell : ∀ y ∈ scope.names, y.2 = .free → ∃ c, X.env.cells.lookup y.1 = some c := fun y hy e => (blk.free y hy e).elim (fun k => I.ok.has _ (.inl k)) fun k => I.ok.has _ (.inr k)
  refine wpAny_comprehension_free (use := use) rfl hfold (closure_ok hcell) blk.kind (fun y hy e => by rw [blk.uniq y hy, e]) (thn (hit.run pins s σ H _ I h) fun xv t1 hx => thn hx fun itv t2 h2 => ?_)
  obtain ⟨it, fp, tn, J, G2, e, J2, Tu, tn2, f2, q⟩ := h2
  subst e
  refine wpAny_newObj_type (newEnv_comp ?_)
  generalize hDn : t2.heap.objs.size = D
  have hD0 : G2 D = none := J2.hok.fresh (Nat.le_of_eq hDn)
  obtain ⟨ob, hob⟩ := dn_ok (P := X.prog) (w := X.w) (H' := G2) (a := t2.heap.objs.size) (beq_eq_false_iff_ne.mpr (Ne.symm (Nat.ne_of_lt J2.big))) (Nat.zero_le _) (Heap.DictOfH.new t2.heap)
  obtain ⟨Wv, ⟨m0, w0⟩, turn⟩ := q D ob hD0
  generalize ht3 : ({ t2 with heap := t2.heap.push { cls := .type "dict", data := .dict #[] } } : Shared) = t3
  have J3 : Inv X pins σ (upd G2 D (DN X.prog X.w D [] ob)) t3 := by
    rw [← ht3]
    rw [hDn] at hob
    exact J2.laid (t' := t2.toks) (fun b o e => Heap.get?_push_of_some _ e) (Nat.le_of_eq hDn) hob
  have hh3 : t3.heap = t2.heap.push { cls := .type "dict", data := .dict #[] } := by rw [← ht3]
  have szf : ∀ b ∈ fp, b < t2.heap.objs.size := fun b hb => let ⟨o, e, _⟩ := Tu.obj _ _ tn2 b hb; Heap.lt_size e
  have f3 : ∀ b ∈ fp, FpOk X pins (upd G2 D (DN X.prog X.w D [] ob)) b ∧ b < t3.heap.objs.size := fun b hb => by
    have lt := szf b hb
    refine ⟨⟨?_, (f2 b hb).2⟩, by rw [hh3, Heap.size_push]; exact Nat.lt_succ_of_lt lt⟩
    rw [upd_ne (by rw [← hDn]; exact Nat.ne_of_lt lt)]; exact (f2 b hb).1
  have tn3 : tn 0 t3.heap := Tu.keep _ _ _ tn2 fun b _ o e => by rw [hh3]; exact Heap.get?_push_of_some _ e
  have J4 := block_start J3 blk hnd f3
  generalize hcl : cellsFrom (t3.heap.objs.size + 1) scope.names (cloFrom X.env.cells scope.names []) = cl at J4
  have pg := hG t3 (upd G2 D (DN X.prog X.w D [] ob)) t3.heap.objs.size cl fp
  have pt := hT t3 (upd G2 D (DN X.prog X.w D [] ob)) t3.heap.objs.size cl fp
  have pk := hK t3 (upd G2 D (DN X.prog X.w D [] ob)) t3.heap.objs.size cl fp
  have pv := hV t3 (upd G2 D (DN X.prog X.w D [] ob)) t3.heap.objs.size cl fp
  show codeAny _ _ (.compStart (.DictComp kx vx [⟨tg, iter, ifs, 0⟩] scope pos) 0 (.ref it) (.ref D) (compEnvC scope cl t3.heap.objs.size X.env)) (compPost (model X.prog X.w) X.A X.xe use Qf (.ref D) t3.heap.objs.size) { t3 with heap := pushCells (t3.heap.push { cls := .type "dict", data := .dict #[] }) scope.names }
  have nofp : ∀ b ∈ fp, (upd G2 D (DN X.prog X.w D [] ob)) b = none := fun b hb => (f3 b hb).1.1
  generalize hce : compEnvC scope cl t3.heap.objs.size X.env = ce at J4 pg pt pk pv ⊢
  have ceL : ce.locals = t3.heap.objs.size := by subst hce; rfl
  generalize hG3 : upd G2 D (DN X.prog X.w D [] ob) = G3 at J3 J4 pg pt pk pv w0 nofp f3
  generalize ht4 : ({ t3 with heap := pushCells (t3.heap.push { cls := .type "dict", data := .dict #[] }) scope.names } : Shared) = t4 at J4 ⊢
  have tn4 : tn 0 t4.heap := Tu.keep _ _ _ tn3 fun b _ o e => by rw [← ht4]; exact pushCells_keeps _ _ _ _ (Heap.get?_push_of_some _ e)
  have ours : ∀ {σ' : L2.St} {H' : Hp} {s' : Shared}, Inv (X.blk t3 G3 scope ce fp) [] σ' H' s' → (∀ b ∈ fp, H' b = none) → ∀ b ∈ fp, FpOk (X.blk t3 G3 scope ce fp) [] H' b := fun {σ' H' s'} K' hn b hb =>
    ⟨hn b hb, (K'.ok.exf b hb).1, K'.ok.exfs b hb, .inl hb, fun x c e => (K'.ok.exf b hb).2 x c e, fun p hp => absurd (show p ∈ ([] : List (Addr × Obj)) ++ [] from hp) (by simp)⟩
  have loop : codeAny (model X.prog X.w) X.A (.compLoop (.DictComp kx vx [⟨tg, iter, ifs, 0⟩] scope pos) 0 (.ref it) (.ref D) ce) (compPost (model X.prog X.w) X.A X.xe use Qf (.ref D) t3.heap.objs.size) t4 := by
    refine compLoop_anyD (fun n s' => ∃ i H', Inv (X.blk t3 G3 scope ce fp) [] (wipe σ (own.map (·.2))) H' s' ∧ tn i s'.heap ∧ (∀ b ∈ fp, H' b = none) ∧ Wv i n H') ?_ m0 ⟨0, G3, J4, tn4, nofp, w0⟩
    rintro n' t5 ⟨i, G5, J5, tn5, n5, w5⟩
    rcases turn i n' G5 w5 with ⟨stop, qq⟩ | ⟨go, Nx, hNx, step⟩
    · refine thnF (Tu.done (X.blk t3 G3 scope ce fp) rfl rfl rfl hcalm i [] t5 _ G5 (fun _ _ => False) J5 (ours J5 n5) tn5 stop) fun r t6 ⟨hr6, J6⟩ => ?_
      subst hr6
      have J7 : Inv X pins σ G5 t6 := J3.call' (ch := fp) J6.os J6.base J6.hok J6.bare fun b hb => let z := (f3 b hb).1.2; ⟨z.2.2.1, z.1, z.2.2.2.1, z.2.2.2.2⟩
      have nC : G5 t3.heap.objs.size = none := by rw [← ceL]; exact J6.free
      obtain ⟨m, hn, _⟩ := J6.loc
      have hn : t6.heap.Ns ce.locals m := hn
      rw [ceL] at hn
      exact fin0 D t3.heap.objs.size t6 m G5 J7 qq hn (J3.fpOk (Nat.le_refl _) nC)
    · refine thnF (Tu.item (X.blk t3 G3 scope ce fp) rfl rfl rfl hcalm i [] t5 _ G5 (fun _ _ => False) J5 (ours J5 n5) tn5 go) fun r t6 ⟨u, hr6, h6⟩ => ?_
      subst hr6
      refine thnF h6 fun _ t7 ⟨x, G7, J7, r7, y7, tn7, n7⟩ => ?_
      have J7' := J7.pinned (ours J7 n7) (Tu.obj _ _ tn7)
      refine thnF (pg.run _ t7 _ G7 x u _ J7' r7 (step x G7 y7)) fun _ t8 ⟨σ8, G8, J8, hw8, q8⟩ => ?_
      refine thnF (pt.run _ t8 σ8 G8 _ J8 q8) fun bb t9 ⟨G9, J9, q9⟩ => ?_
      have fin : ∀ {s' : Shared} {H' : Hp}, Inv (X.blk t3 G3 scope ce fp) ([] ++ pinsAt fp t7.heap) σ8 H' s' → Nx H' → ∃ m, m < n' ∧ ∃ i H', Inv (X.blk t3 G3 scope ce fp) [] (wipe σ (own.map (·.2))) H' s' ∧ tn i s'.heap ∧ (∀ b ∈ fp, H' b = none) ∧ Wv i m H' := fun {s' H'} K' nx => by
        obtain ⟨m', hm, w'⟩ := hNx H' nx
        have held : ∀ b ∈ fp, ∀ o, t7.heap.get? b = some o → s'.heap.get? b = some o ∧ H' b = none := fun b hb o e =>
          let z := K'.pin (b, o) (List.mem_append_right _ (List.mem_append_right _ (mem_pinsAt hb e))); ⟨z.1, z.2.1⟩
        have hlen : (wipe σ (own.map (·.2))).length = σ8.length := by rw [← hw8, wipe_length]
        refine ⟨m', hm, i + 1, H', (K'.unpinned (pins := [])).weak hlen (fun j v e => by rw [← hw8] at e; exact (wipe_some e).1), Tu.keep _ _ _ tn7 fun b hb o e => (held b hb o e).1, fun b hb => ?_, w'⟩
        obtain ⟨o, e, _⟩ := Tu.obj _ _ tn7 b hb
        exact (held b hb o e).2
      cases bb with
      | false => simp only [Bool.false_eq_true, if_false] at q9 ⊢; exact fin J9 q9
      | true =>
        simp only [if_true] at q9 ⊢
        refine thnF (pk.run _ t9 σ8 G9 _ J9 q9) fun kv t10 ⟨yk, G10, J10, r10, q10⟩ => thnF (pv.run _ t10 σ8 G10 _ J10 q10) fun vv t11 ⟨yv, G11, J11, r11, xs, o, ka, kk, ek, hD11, hks, hz11, hka, hdp, nx⟩ => ?_
        subst ek
        obtain rfl : kv = Value.ref ka := r10
        exact put_N (X := X.blk t3 G3 scope ce fp) hr J11 hD11 hks hz11 hka hdp r11 fun t12 o' J12 => fin J12 (nx _ o' r11)
  exact codeAny_compStart_dict loop (Tu.self X.A 0 _ _ _ tn4 loop)
end
end Zk
-- Zk23
set_option maxHeartbeats 4000000
namespace Zk
open PySem PySem.Spec L2

section
variable {Z : Wd} {W : WX} {X : Cx} {k : Nat} {H H' : Hp} {b : Ban} {ads ads' : Ads} {e a c kx vx : Expr} {pos p pos' : Pos} {da db dc : Sl → Store → R PV} {T : Tabs} {call : Calls}
theorem dcTurn_yes {tg : Tg} {own : List Nat} {ρ : Sl} {cond key val : Sl → Store → R PV} {x : PV} {M M' : Store} {y : Option (PV × PV)} (h : dcTurn true tg own ρ cond key val x M = some (y, M')) :
    ∃ ρ', setT tg x (wipeS ρ own) = some ρ' ∧ ((∃ M2 M3 a v, cond ρ' M = .ok (.bl true) M2 ∧ key ρ' M2 = .ok a M3 ∧ val ρ' M3 = .ok v M' ∧ keyOk true a = true ∧ y = some (a, v)) ∨ (cond ρ' M = .ok (.bl false) M' ∧ y = none)) := by
  unfold dcTurn at h
  cases q : setT tg x (wipeS ρ own) with
  | none => rw [q] at h; cases h
  | some ρ' =>
    rw [q] at h
    dsimp only at h
    refine ⟨ρ', rfl, ?_⟩
    cases q1 : (cond ρ' M).okB with
    | none => rw [q1] at h; cases h
    | some cm =>
      obtain ⟨c, M2⟩ := cm
      rw [q1] at h
      cases c with
      | true =>
        dsimp only at h
        cases q2 : (key ρ' M2).val with
        | none => rw [q2] at h; cases h
        | some vm =>
          obtain ⟨ka, M3⟩ := vm
          rw [q2] at h
          dsimp only at h
          cases q3 : (val ρ' M3).val with
          | none => rw [q3] at h; cases h
          | some vm =>
            obtain ⟨v, M4⟩ := vm
            rw [q3] at h
            dsimp only at h
            split at h
            · rename_i hk
              cases h
              exact .inl ⟨M2, M3, ka, v, okB_some q1, val_some q2, val_some q3, hk, rfl⟩
            · cases h
      | false =>
        cases h
        exact .inr ⟨okB_some q1, rfl⟩
theorem setT_len {tg : Tg} {p : PV} {ρ ρ' : Sl} (h : setT tg p ρ = some ρ') : ρ'.length = ρ.length := by
  have gen : ∀ (is : List Nat) (ps : List PV) (ρ ρ' : Sl), setMany is ps ρ = some ρ' → ρ'.length = ρ.length := by
    intro is
    induction is with
    | nil => intro ps ρ ρ' e; cases ps <;> simp [setMany] at e; rw [e]
    | cons j is ih =>
      intro ps ρ ρ' e
      cases ps with
      | nil => simp [setMany] at e
      | cons p ps => rw [ih ps _ _ e]; simp [setS]
  cases tg with
  | one j => cases h; simp [setS]
  | many is =>
    simp only [setT] at h
    split at h
    · exact gen _ _ _ _ h
    · cases h
theorem DctN.mv {xs : List (NestedKey × Addr × Value)} {ks ws : List PV} {b' : Ban} (f : Mv H b ads H' b' ads') (d : DctN Z H b ads xs ks ws) : DctN Z H' b' ads' xs ks ws := by
  obtain ⟨g1, g2, g3, vs, g4, g5⟩ := d
  exact ⟨g1, g2, RpL.mv f _ _ g3, vs, RpL.mv f _ _ g4, g5⟩
theorem dc_of {σ : L2.St} {Q : VK} {ik : ItK} {tg : Tg} {own : List Nat} {di dc dk dv : Sl → Store → R PV} (ht : ∀ i ∈ tgL tg, i ∈ own)
    (h : tE Z W (fun ρ M => (di ρ M).bind fun w M1 => match walkV ik (bargs w) with
      | none => .bad
      | some items => dcEnd true (dcLoop (dcTurn true tg own ρ dc dk dv) items ([], []) M1)) σ H Q) : tDcN Z.P Z.w Z.K (tI Z W ik di) (gZ Z tg) (tT Z WF dc) (tE Z WF dk) (tE Z WF dv) own σ H Q := by
  obtain ⟨b, ads, M, ρ, st, sl, h⟩ := h
  refine ⟨b, ads, M, ρ, st, sl, ?_⟩
  dsimp only at h
  cases q : di ρ M with
  | bad => rw [q] at h; exact h
  | exc x M1 => rw [q] at h; exact h
  | ok w M1 =>
    rw [q] at h
    have h : EndE Z W σ H b ads Q (match walkV ik (bargs w) with
      | none => .bad
      | some items => dcEnd true (dcLoop (dcTurn true tg own ρ dc dk dv) items ([], []) M1)) := h
    cases hw : walkV ik (bargs w) with
    | none => rw [hw] at h; exact h.elim
    | some items =>
      rw [hw] at h
      dsimp only at h
      refine ⟨items, hw, fun H1 ads1 J f1 st1 it D ob hD => ?_⟩
      cases hl : dcLoop (dcTurn true tg own ρ dc dk dv) items ([], []) M1 with
      | none => rw [hl] at h; exact h.elim
      | some yM =>
        obtain ⟨ys, M2⟩ := yM
        rw [hl] at h
        have h : EndE Z W σ H b ads Q (.ok (.dct true ys.1 ys.2) M2) := h
        have sl1 : SlotR Z (upd H1 D (DN Z.P Z.w D [] ob)) (bar b D) ads1 ρ σ := (sl.aft f1).mv (mv_bar hD)
        have nD : some D ∉ ads1 := (st1.fresh hD).2
        have nb : ¬ b D := (st1.fresh hD).1
        refine ⟨fun i m H2 => m = items.length - i ∧ i ≤ items.length ∧ ∃ ads2 M3 acc xs o, Aft H1 ads1 H2 ads2 ∧ Mv (upd H1 D (DN Z.P Z.w D [] ob)) (bar b D) ads1 H2 (bar b D) ads2 ∧ StoR Z H2 (bar b D) ads2 M3 ∧ some D ∉ ads2 ∧ H2 D = some (DN Z.P Z.w D xs o) ∧
          DctN Z H2 (bar b D) ads2 xs acc.1 acc.2 ∧ dcLoop (dcTurn true tg own ρ dc dk dv) (items.drop i) acc M3 = some (ys, M2), ⟨items.length, rfl, Nat.zero_le _, ads1, M1, ([], []), [], ob, Aft.laid hD, Mv.refl, st1.bar hD, nD, upd_same, ⟨rfl, rfl, RpL.nil, [], RpL.nil, .nil⟩, hl⟩, ?_⟩
        rintro i m H2 ⟨rfl, hi, ads2, M3, acc, xs, o, a2, v2, st2, n2, hD2, r2, l2⟩
        by_cases hlt : i < items.length
        · have e1 : items.drop i = items[i] :: items.drop (i + 1) := List.drop_eq_getElem_cons hlt
          rw [e1, dcLoop] at l2
          refine .inr ⟨it.go i H2 _ _ ((mv_bar hD).trans v2) hlt, fun H3 => i + 1 ≤ items.length ∧ ∃ ads2 M3 acc xs o, Aft H1 ads1 H3 ads2 ∧ Mv (upd H1 D (DN Z.P Z.w D [] ob)) (bar b D) ads1 H3 (bar b D) ads2 ∧ StoR Z H3 (bar b D) ads2 M3 ∧ some D ∉ ads2 ∧ H3 D = some (DN Z.P Z.w D xs o) ∧
            DctN Z H3 (bar b D) ads2 xs acc.1 acc.2 ∧ dcLoop (dcTurn true tg own ρ dc dk dv) (items.drop (i + 1)) acc M3 = some (ys, M2), fun H3 q3 => ⟨items.length - (i + 1), by omega, rfl, q3⟩, fun x H3 y3 => ?_⟩
          obtain ⟨k3, r3⟩ := it.yld i H2 _ _ M3 _ x H3 ((mv_bar hD).trans v2) st2 (List.getElem?_eq_getElem hlt) y3
          have a23 : Aft H2 ads2 H3 ads2 := Aft.kept k3
          have st3 := st2.keep k3
          cases hf : dcTurn true tg own ρ dc dk dv items[i] M3 with
          | none => rw [hf] at l2; cases l2
          | some yM' =>
            obtain ⟨y, M4⟩ := yM'
            rw [hf] at l2
            obtain ⟨ρ', e2, hcase⟩ := dcTurn_yes hf
            have sl3 : SlotR Z H3 (bar b D) ads2 ρ σ := (sl1.mv v2).aft a23
            refine ⟨bar b D, ads2, items[i], wipeS ρ own, ρ', r3, sl3.wipe own, e2, fun σ' sl' out => ⟨?_, ?_⟩⟩
            · refine wipe_eq (is := tgL tg) out ?_ ht
              rw [← sl'.len, setT_len e2, wipeS_length]; exact sl.len
            · rcases hcase with ⟨M5, M6, ka, v, hc, hk, he, hko, rfl⟩ | ⟨hc, rfl⟩
              · refine ⟨bar b D, ads2, M3, ρ', st3, sl', ?_⟩
                rw [hc]
                refine ⟨true, rfl, fun H4 ads4 f4 st4 => ?_⟩
                dsimp only
                rw [if_pos rfl]
                refine ⟨bar b D, ads4, M5, ρ', st4, sl'.aft f4, ?_⟩
                rw [hk]
                intro H5 ads5 yk f5 st5 r5
                refine ⟨bar b D, ads5, M6, ρ', st5, (sl'.aft f4).aft f5, ?_⟩
                rw [he]
                intro H6 ads6 yv f6 st6 r6
                have f26 := a23.trans ((f4.trans f5).trans f6)
                have hD6 : H6 D = some (DN Z.P Z.w D xs o) := f26.keep D _ hD2 n2
                have n6 : some D ∉ ads6 := notIn_ads f26 hD2 n2
                have d6 : DctN Z H6 (bar b D) ads6 xs acc.1 acc.2 := r2.mv f26.mv
                have rk6 := Rp.aft f6 _ _ r5
                obtain ⟨kad, ek, hn, hdp⟩ := key_nkh rk6 hko
                subst ek
                dsimp only at l2
                split at l2
                · rename_i hlen
                  refine ⟨xs, o, kad, nk ka, rfl, hD6, d6.ks, by rw [d6.len.1]; exact most_lt hlen, hn, hdp, fun u o' ru => ⟨hlt, ads6, M4, dput ka v acc.1 acc.2, _, o', (a2.trans f26).wr hD, (v2.trans f26.mv).trans (mv_wr (.inr rfl)), st6.wr (.inr rfl), n6, upd_same, (d6.put hko rk6 r6 ru).mv (mv_wr (.inr rfl)), l2⟩⟩
                · cases l2
              · refine ⟨bar b D, ads2, M3, ρ', st3, sl', ?_⟩
                rw [hc]
                refine ⟨false, rfl, fun H4 ads4 f4 st4 => ?_⟩
                dsimp only
                rw [if_neg (by decide)]
                have f24 := a23.trans f4
                exact ⟨hlt, ads4, M4, acc, xs, o, a2.trans f24, v2.trans f24.mv, st4, notIn_ads f24 hD2 n2, f24.keep D _ hD2 n2, r2.mv f24.mv, l2⟩
        · have ei : i = items.length := by omega
          subst ei
          rw [List.drop_length, dcLoop] at l2
          cases l2
          refine .inl ⟨it.stop H2 _ _ ((mv_bar hD).trans v2), h H2 ads2 (.ref D) (f1.trans a2) st2.unbar ?_⟩
          obtain ⟨g1, g2, g3, vs, g4, g5⟩ := r2.mv (b' := b) mv_un
          simp only [Rp]
          exact ⟨D, xs, vs, rfl, ⟨nb, n2⟩, ⟨o, hD2⟩, g1, g2, g3, g4, g5⟩
theorem s_dc {kx vx tgE iter : Expr} {ifs : List Expr} {scope : Scope} {own : List (Str × Nat)} {ik : ItK} {tg : Tg} {di dc dk dv : Sl → Store → R PV} (C : Cok Z k X W) (hi : PI X tgE iter (tI Z W ik di)) (ok : BlkOk X.N X.env.scope scope own) (ht : ∀ i ∈ tgL tg, i ∈ own.map (·.2))
    (hg : ∀ (s : Shared) (H : Hp) (C : Addr) (cl : List (Str × Addr)) (fp : List Addr), PG (X.blk s H scope (compEnvC scope cl C X.env) fp) tgE (gZ Z tg)) (hc : ∀ (s : Shared) (H : Hp) (C : Addr) (cl : List (Str × Addr)) (fp : List Addr), PTs (X.blk s H scope (compEnvC scope cl C X.env) fp) ifs (tT Z WF dc))
    (hk : ∀ (s : Shared) (H : Hp) (C : Addr) (cl : List (Str × Addr)) (fp : List Addr), PE (X.blk s H scope (compEnvC scope cl C X.env) fp) kx (tE Z WF dk))
    (hv : ∀ (s : Shared) (H : Hp) (C : Addr) (cl : List (Str × Addr)) (fp : List Addr), PE (X.blk s H scope (compEnvC scope cl C X.env) fp) vx (tE Z WF dv)) (hs : ∀ x, foldedSetIterable iter X.env x = pure x) :
    PE X (.DictComp kx vx [⟨tgE, iter, ifs, 0⟩] scope pos) (tE Z W fun ρ M => (di ρ M).bind fun w M1 => match walkV ik (bargs w) with
      | none => .bad
      | some items => dcEnd true (dcLoop (dcTurn true tg (own.map (·.2)) ρ dc dk dv) items ([], []) M1)) := by
  refine ⟨fun pins s σ H Q I h => ?_⟩
  rw [arm_eval_DictComp]
  have h' := dc_of ht h
  rw [← C.prog, ← C.w, ← C.K] at h'
  refine dcN_core C.room C.calm C.nd I hi ok hg hc hk hv hs h' fun D Cc s' m H' I' q hn f => ⟨m, hn, fun h'' sb => ?_⟩
  obtain ⟨f0, f1, f2, f3, f4, f5⟩ := f
  exact ⟨.ref D, H', I'.turned (t' := s'.toks) (fun b o hb e => (sb.2 b hb).trans e) f0 f1 f3 f4 f5, rfl, q⟩
theorem sw_cell {elt : Expr} {gs : List Comprehension} {scope : Scope} {py : Pos} {y : Str} {l : Nat} {env : Env} (h : env.scope.names.lookup y = some .cell) : swapsWith (.ListComp elt gs scope pos) (some (.Name y py)) l env = pure false := by
  have ky : env.kindOf y = some .cell := h
  unfold swapsWith
  have e : (NameKind.cell == NameKind.local) = false := by decide
  simp [ky, e]
theorem sw_cellD {kx vx : Expr} {gs : List Comprehension} {scope : Scope} {py : Pos} {y : Str} {l : Nat} {env : Env} (h : env.scope.names.lookup y = some .cell) : swapsWith (.DictComp kx vx gs scope pos) (some (.Name y py)) l env = pure false := by
  have ky : env.kindOf y = some .cell := h
  unfold swapsWith
  have e : (NameKind.cell == NameKind.local) = false := by decide
  simp [ky, e]
theorem s_setLc {elt tgE iter : Expr} {ifs : List Expr} {scope : Scope} {own : List (Str × Nat)} {n : Nat} {y : Str} {py spos : Pos} {ik : ItK} {tg : Tg} {di dc de : Sl → Store → R PV} (C : Cok Z k X W) (hkind : X.env.scope.kind = .function) (hy : X.N[n]? = some y) (hyl : X.env.scope.names.lookup y = some .local) (hl : (py.line == pos.line) = true) (hno : (scope.names.any fun (m, kk) => m == y && (kk == .local || kk == .cell)) = false)
    (hi : PI X tgE iter (tI Z W ik di)) (ok : BlkOk X.N X.env.scope scope own) (ht : ∀ i ∈ tgL tg, i ∈ own.map (·.2))
    (hg : ∀ (s : Shared) (H : Hp) (C : Addr) (cl : List (Str × Addr)) (fp : List Addr), PG (X.blk s H scope (compEnvC scope cl C X.env) fp) tgE (gZ Z tg)) (hc : ∀ (s : Shared) (H : Hp) (C : Addr) (cl : List (Str × Addr)) (fp : List Addr), PTs (X.blk s H scope (compEnvC scope cl C X.env) fp) ifs (tT Z WF dc))
    (he : ∀ (s : Shared) (H : Hp) (C : Addr) (cl : List (Str × Addr)) (fp : List Addr), PE (X.blk s H scope (compEnvC scope cl C X.env) fp) elt (tE Z WF de)) (hs : ∀ x, foldedSetIterable iter X.env x = pure x) :
    PS X (.Assign [.Name y py] (.ListComp elt [⟨tgE, iter, ifs, 0⟩] scope pos) spos) (tS Z W fun ρ M => ((di ρ M).bind fun w M1 => match walkV ik (bargs w) with
      | none => .bad
      | some items => lcEnd (lcLoop (lcTurn tg (own.map (·.2)) ρ dc de) items [] M1)).toS ρ fun v M1 => .nx (setS ρ n v) M1) :=
  impS (ps_setLc C.calm C.nd hy hyl (sw_true hkind hyl hl hno) hi ok hg hc he hs) fun D σ H ⟨b, ads, M, ρ, st, sl, h⟩ =>
    lc_of ht ⟨b, ads, M, ρ, st, sl, (EndS.ofE sl h).mono fun x H1 ⟨ads1, v, M1, f1, st1, r1, h1⟩ => h1 H1 ads1 _ Aft.refl st1 ((sl.aft f1).set r1)⟩
end
end Zk
-- Zk24
set_option maxHeartbeats 4000000
namespace Zk
open PySem PySem.Spec L2

section
variable {Z : Wd} {W : WX} {X : Cx} {k : Nat} {H H' : Hp} {b : Ban} {ads ads' : Ads} {e a c d : Expr} {pos p pos' : Pos} {da db dc : Sl → Store → R PV} {T : Tabs} {call : Calls} {env : Env}
theorem setMany_len : ∀ {is : List Nat} {ps : List PV} {ρ ρ' : Sl}, setMany is ps ρ = some ρ' → ps.length = is.length
  | [], [], _, _, _ => rfl
  | i :: is, p :: ps, ρ, ρ', h => by simp [setMany_len (is := is) (ps := ps) h]
  | [], p :: ps, _, _, h => by simp [setMany] at h
  | i :: is, [], _, _, h => by simp [setMany] at h
theorem blk_fn (hk : env.scope.kind = .function) : env.blockKind = .function := by unfold Env.blockKind; rw [hk]; rfl
theorem s_parG {kk k2 : Nat} {es vs : List Expr} {is : List Nat} {tp vp : Pos} (C : Cok Z k X W) (hn : NmsOk X es is) (hl : is.length ≤ mostLen) (ha : PA X vs (tA Z W da)) (hw : swappedStores [.Tuple es kk tp] (.Tuple vs k2 vp) X.env = pure none) :
    PS X (.Assign [.Tuple es kk tp] (.Tuple vs k2 vp) pos) (tS Z W fun ρ M => (da ρ M).toS ρ fun w M1 => match setMany is (bargs w) ρ with | some ρ1 => .nx ρ1 M1 | none => .bad) := by
  refine impS (ps_asg (s_tup (Z := Z) (W := W) ha) (g_many C hn) sw_tup hw) fun D σ H ⟨b, ads, M, ρ, st, sl, h⟩ => ⟨b, ads, M, ρ, st, sl, ?_⟩
  dsimp only at h ⊢
  cases q : da ρ M with
  | bad => rw [q] at h; exact h
  | exc x M1 => rw [q] at h; exact fun H1 a1 c dd g s p => h H1 a1 c dd σ g s p (sl.aft g)
  | ok w M1 =>
    rw [q] at h
    have h : EndS Z W D H b ads (match setMany is (bargs w) ρ with | some ρ1 => .nx ρ1 M1 | none => .bad) := h
    cases hs : setMany is (bargs w) ρ with
    | none => rw [hs] at h; exact h.elim
    | some ρ1 =>
      rw [hs] at h
      show EndE Z W σ H b ads _ (if (bargs w).length ≤ mostLen then .ok (.tup (bargs w)) M1 else .bad)
      rw [if_pos (by rw [setMany_len hs]; exact hl)]
      intro H1 ads1 x f1 st1 r1
      exact ⟨b, ads1, .tup (bargs w), ρ, ρ1, r1, sl.aft f1, hs, fun σ' sl' _ => h H1 ads1 σ' f1 st1 sl'⟩
theorem s_par2 {i j k1 k2 : Nat} {x y : Str} {px py pt pv : Pos} (C : Cok Z k X W) (hi : X.N[i]? = some x) (hj : X.N[j]? = some y) (hij : i ≠ j) (hx : X.env.scope.names.lookup x = some .local) (hy : X.env.scope.names.lookup y = some .local) (ha : PA X [a, c] (tA Z W da))
    (hw : swappedStores [.Tuple [.Name x px, .Name y py] k1 pt] (.Tuple [a, c] k2 pv) X.env = pure (some [x, y])) :
    PS X (.Assign [.Tuple [.Name x px, .Name y py] k1 pt] (.Tuple [a, c] k2 pv) pos) (tS Z W fun ρ M => (da ρ M).toS ρ fun w M1 => match setMany [i, j] (bargs w) ρ with | some ρ1 => .nx ρ1 M1 | none => .bad) := by
  refine impS (ps_par C.calm C.nd hi hj hij hx hy ha hw) fun D σ H ⟨b, ads, M, ρ, st, sl, h⟩ => ⟨b, ads, M, ρ, st, sl, (EndS.ofA sl h).mono fun xs H1 ⟨ads1, v, M1, f1, st1, r1, h1⟩ => ?_⟩
  cases hs : setMany [i, j] (bargs v) ρ with
  | none => rw [hs] at h1; exact h1.elim
  | some ρ1 =>
    rw [hs] at h1
    obtain ⟨sl', hl⟩ := (sl.aft f1).setMany r1 hs
    match xs, hl with
    | [u, w], _ => exact ⟨u, w, rfl, h1 H1 ads1 _ Aft.refl st1 sl'⟩
theorem s_par3 {i j l k1 k2 : Nat} {x y z : Str} {px py pz pt pv : Pos} (C : Cok Z k X W) (hi : X.N[i]? = some x) (hj : X.N[j]? = some y) (hl : X.N[l]? = some z) (hij : i ≠ j) (hil : i ≠ l) (hjl : j ≠ l) (hx : X.env.scope.names.lookup x = some .local) (hy : X.env.scope.names.lookup y = some .local) (hz : X.env.scope.names.lookup z = some .local) (ha : PA X [a, c, d] (tA Z W da))
    (hw : swappedStores [.Tuple [.Name x px, .Name y py, .Name z pz] k1 pt] (.Tuple [a, c, d] k2 pv) X.env = pure (some [x, y, z])) :
    PS X (.Assign [.Tuple [.Name x px, .Name y py, .Name z pz] k1 pt] (.Tuple [a, c, d] k2 pv) pos) (tS Z W fun ρ M => (da ρ M).toS ρ fun w M1 => match setMany [i, j, l] (bargs w) ρ with | some ρ1 => .nx ρ1 M1 | none => .bad) := by
  refine impS (ps_par3 C.calm C.nd hi hj hl hij hil hjl hx hy hz ha hw) fun D σ H ⟨b, ads, M, ρ, st, sl, h⟩ => ⟨b, ads, M, ρ, st, sl, (EndS.ofA sl h).mono fun xs H1 ⟨ads1, v, M1, f1, st1, r1, h1⟩ => ?_⟩
  cases hs : setMany [i, j, l] (bargs v) ρ with
  | none => rw [hs] at h1; exact h1.elim
  | some ρ1 =>
    rw [hs] at h1
    obtain ⟨sl', hl⟩ := (sl.aft f1).setMany r1 hs
    match xs, hl with
    | [u, w, t], _ => exact ⟨u, w, t, rfl, h1 H1 ads1 _ Aft.refl st1 sl'⟩
def isSt : Expr → Bool
  | .Starred .. => true
  | _ => false
theorem sws_yes2 {x y : Str} {k1 k2 : Nat} {px py pt pv : Pos} (hk : env.scope.kind = .function) (hx : env.scope.names.lookup x = some .local) (hy : env.scope.names.lookup y = some .local) (hne : x ≠ y) (hl : py.line = px.line) (ha : isSt a = false) (hc : isSt c = false)
    (hf : ([a, c].all (foldedForSure 8)) = false) (hco : ([a, c].all (constantsAlone 8)) = false) : swappedStores [.Tuple [.Name x px, .Name y py] k1 pt] (.Tuple [a, c] k2 pv) env = pure (some [x, y]) := by
  have kx : env.kindOf x = some .local := hx
  have ky : env.kindOf y = some .local := hy
  have hd : [x, y].eraseDups = [x, y] := by
    have : (y == x) = false := by simpa using Ne.symm hne
    simp [List.eraseDups_cons, this]
  unfold swappedStores
  simp only [blk_fn hk, hf, hco]
  simp [List.filterMap_cons, kx, ky, hd, Expr.pos, hl]
  intro h
  rcases h with h | h
  · exfalso; cases a <;> first | exact nomatch (show false = true from h) | exact nomatch (show true = false from ha)
  · exfalso; cases c <;> first | exact nomatch (show false = true from h) | exact nomatch (show true = false from hc)
theorem sws_yes3 {x y z : Str} {k1 k2 : Nat} {px py pz pt pv : Pos} (hk : env.scope.kind = .function) (hx : env.scope.names.lookup x = some .local) (hy : env.scope.names.lookup y = some .local) (hz : env.scope.names.lookup z = some .local) (hxy : x ≠ y) (hxz : x ≠ z) (hyz : y ≠ z) (hl : py.line = px.line) (hl' : pz.line = px.line) (ha : isSt a = false) (hc : isSt c = false) (hd' : isSt d = false)
    (hf : ([a, c, d].all (foldedForSure 8)) = false) (hco : ([a, c, d].all (constantsAlone 8)) = false) : swappedStores [.Tuple [.Name x px, .Name y py, .Name z pz] k1 pt] (.Tuple [a, c, d] k2 pv) env = pure (some [x, y, z]) := by
  have kx : env.kindOf x = some .local := hx
  have ky : env.kindOf y = some .local := hy
  have kz : env.kindOf z = some .local := hz
  have hd : [x, y, z].eraseDups = [x, y, z] := by
    have h1 : (y == x) = false := by simpa using Ne.symm hxy
    have h2 : (z == x) = false := by simpa using Ne.symm hxz
    have h3 : (z == y) = false := by simpa using Ne.symm hyz
    simp [List.eraseDups_cons, h1, h2, h3]
  unfold swappedStores
  simp only [blk_fn hk, hf, hco]
  simp [List.filterMap_cons, kx, ky, kz, hd, Expr.pos, hl, hl']
  intro h
  rcases h with h | h | h
  · exfalso; cases a <;> first | exact nomatch (show false = true from h) | exact nomatch (show true = false from ha)
  · exfalso; cases c <;> first | exact nomatch (show false = true from h) | exact nomatch (show true = false from hc)
  · exfalso; cases d <;> first | exact nomatch (show false = true from h) | exact nomatch (show true = false from hd')
/-- four or more names -/
theorem sws_many {ts vs : List Expr} {k1 k2 : Nat} {pt pv : Pos} (h : (ts.length == 2 || ts.length == 3) = false) : swappedStores [.Tuple ts k1 pt] (.Tuple vs k2 pv) env = pure none := by
  unfold swappedStores
  simp only [h]
  rfl
/-- a name that is no plain local -/
theorem sws_cell2 {x y : Str} {k1 k2 : Nat} {px py pt pv : Pos} (h : env.scope.names.lookup x ≠ some .local ∨ env.scope.names.lookup y ≠ some .local) : swappedStores [.Tuple [.Name x px, .Name y py] k1 pt] (.Tuple [a, c] k2 pv) env = pure none := by
  have hk : env.kindOf x ≠ some .local ∨ env.kindOf y ≠ some .local := h
  unfold swappedStores
  have e1 : (match ([.Tuple [.Name x px, .Name y py] k1 pt] : List Expr), (.Tuple [a, c] k2 pv : Expr) with
    | [.Tuple ts _ _], .Tuple vs _ _ | [.List ts _], .Tuple vs _ _ => some (ts, vs)
    | _, _ => none) = some ([.Name x px, .Name y py], [a, c]) := rfl
  dsimp only
  split
  · rfl
  · split
    · rfl
    · rw [if_pos]
      have hn : ∀ f : Expr → Option Str, (f (.Name x px) = none ∨ f (.Name y py) = none) → ((([.Name x px, .Name y py] : List Expr).filterMap f).length != 2) = true := by
        intro f hf
        rcases hf with hf | hf
        · simp only [List.filterMap_cons, hf, List.filterMap_nil]
          split <;> simp
        · simp only [List.filterMap_cons, hf, List.filterMap_nil]
          split <;> simp
      rw [Bool.or_eq_true]
      refine .inl (hn _ ?_)
      rcases hk with hk | hk
      · left
        have : (env.kindOf x == some NameKind.local) = false := by simpa using hk
        simp [this]
      · right
        have : (env.kindOf y == some NameKind.local) = false := by simpa using hk
        simp [this]
end
end Zk
-- Zk25
set_option maxHeartbeats 4000000
namespace Zk
open PySem PySem.Spec L2

/-- what is seen of a scope -/
structure Sx where
  sc : Scope
  N : List Str
  fn : Str → Bool
def Sx.blk (S : Sx) (scope : Scope) : Sx := ⟨relS scope S.sc, S.N, fun x => scope.names.lookup x == some .cell⟩
structure XOk (X : Cx) (S : Sx) : Prop where
  sc : X.env.scope = S.sc
  N : X.N = S.N
  fn : X.fn = S.fn
theorem XOk.blk {X : Cx} {S : Sx} (h : XOk X S) (s : Shared) (H : Hp) (scope : Scope) (C : Addr) (cl : List (Str × Addr)) (fp : List Addr) : XOk (X.blk s H scope (compEnvC scope cl C X.env) fp) (S.blk scope) :=
  ⟨by show relS scope X.env.scope = relS scope S.sc; rw [h.sc], h.N, rfl⟩
def lk (S : Sx) (x : Str) : Option NameKind := S.sc.names.lookup x
def visB (S : Sx) (x : Str) : Bool := decide (lk S x = some .local) || decide (lk S x = some .cell) || decide (lk S x = some .free)
def glB (S : Sx) (x : Str) : Bool := decide (lk S x = some .globalImplicit)
def okN (x : Str) : Bool := !(x == ("__debug__" : Str)) && !(x == ("__classdict__" : Str))
def atB (S : Sx) (i : Nat) (x : Str) : Bool := decide (S.N[i]? = some x)
def setB (S : Sx) (i : Nat) : Expr → Bool
  | .Name x _ => atB S i x && (decide (lk S x = some .local) || (decide (lk S x = some .cell) && S.fn x))
  | _ => false
def setsB (S : Sx) : List Nat → List Expr → Bool
  | [], [] => true
  | i :: is, e :: es => setB S i e && setsB S is es
  | _, _ => false
def tgB (S : Sx) (tg : Tg) (e : Expr) : Bool := match tg, e with
  | .one i, e => setB S i e
  | .many is, .Tuple es _ _ => setsB S is es
  | _, _ => false
def mC : PV → Const → Bool
  | .non, .none => true
  | .bl a, .bool b => a == b
  | .int i, .int j => decide (i = j)
  | .str x, .str y => decide (x = y)
  | _, _ => false
def baseB : Expr → Bool
  | .Call (.Name _ _) [] [] _ => false
  | _ => true
def bopB : BOp → Operator → Bool
  | .add, .Add => true
  | .sub, .Sub => true
  | .mul, .Mult => true
  | .fdiv, .FloorDiv => true
  | .mod, .Mod => true
  | .pow, .Pow => true
  | _, _ => false
def ownP (S : Sx) (own : List Nat) : List (Str × Nat) := own.map fun i => ((S.N[i]?).getD "", i)
def blkB (S : Sx) (scope : Scope) (own : List Nat) : Bool :=
  decide (scope.kind = .function) && scope.names.all (fun y => decide (scope.names.lookup y.1 = some y.2)) && own.all (fun i => (S.N[i]?).isSome)
    && scope.names.all (fun y => !decide (y.2 = .free) || decide (lk S y.1 = some .cell) || decide (lk S y.1 = some .free))
    && scope.names.all (fun y => !(decide (y.2 = .local) || decide (y.2 = .cell)) || ((ownP S own).map (·.1)).contains y.1 || !S.N.contains y.1)
def kwB : List Keyword → List Str → Bool
  | [], [] => true
  | ⟨some n, _, _⟩ :: ks, m :: ms => decide (n = m) && kwB ks ms
  | _, _ => false
def bltN : Blt → Option Str
  | .len => some "len"
  | .all => some "all"
  | .any => some "any"
  | .sum => some "sum"
  | .max => some "max"
  | .abs => some "abs"
  | .intI => some "int"
  | .lstF => some "list"
  | .lstM => some "list"
  | .tupl => some "tuple"
  | .srt => some "sorted"
  | .dctP => some "dict"
  | _ => none
def bmN : BMt → Option Str
  | .append => some "append"
  | .popAt => some "pop"
  | .index => some "index"
  | _ => none
def tyB (T : Tabs) : Ty → Str → Bool
  | .b n, x => decide (n ≤ 5) && decide (x = Str.ofString (tyN n))
  | .c c, x => T.isi c && decide (T.cnm c = some x)
def setDisp : Expr → Bool
  | .Set _ _ _ => true
  | _ => false
def isCstT : SE → Bool
  | .cst (.bl true) => true
  | _ => false
/-- does the small syntax say what the expression says -/
def mE (T : Tabs) : SE → Sx → Expr → Bool
  | .anil, S, e => (match e with | .Tuple [] _ _ => true | _ => false)
  | .acons d r, S, e => (match e with | .Tuple (x :: xs) k p => notStar x && mE T d S x && mE T r S (.Tuple xs k p) | _ => false)
  | .astar d r, S, e => (match e with | .Tuple (.Starred x _ :: xs) k p => mE T d S x && mE T r S (.Tuple xs k p) | _ => false)
  | .var i, S, e => (match e with | .Name x _ => atB S i x && visB S x && okN x | _ => false)
  | .cst v, S, e => (match e with | .Constant c _ _ => mC v c | _ => false)
  | .glb x, S, e => (match e with | .Name y _ => decide (x = y) && glB S x && (T.glb x).isSome && okN x | _ => false)
  | .tup r, S, e => (match e with | .Tuple es k p => mE T r S (.Tuple es k p) | _ => false)
  | .lst _ r, S, e => (match e with | .List es p => mE T r S (.Tuple es 0 p) | _ => false)
  | .dct _ t ks vs, S, e => (match e with
    | .Dict [] [] _ => isAnil ks && isAnil vs
    | .Dict [some kx] [vx] p => t && !isAnil ks && mE T ks S (.Tuple [kx] 0 p) && mE T vs S (.Tuple [vx] 0 p)
    | _ => false)
  | .bop o a b, S, e => (match e with | .BinOp x op y _ => bopB o op && mE T a S x && mE T b S y | _ => false)
  | .neg a, S, e => (match e with | .UnaryOp .USub x _ => mE T a S x | _ => false)
  | .cmp o a b, S, e => (match e with | .Compare x [op] [y] _ => decide (op = cop o) && !behindInMarks op y && mE T a S x && mE T b S y | _ => false)
  | .chain o o' a b c, S, e => (match e with | .Compare x [op, op'] [y, z] _ => decide (op = cop o) && decide (op' = cop o') && !lastMarks [op, op'] [y, z] && mE T a S x && mE T b S y && mE T c S z | _ => false)
  | .isN a, S, e => (match e with | .Compare x [.Is] [.Constant .none _ _] _ => mE T a S x | _ => false)
  | .notT a, S, e => (match e with | .Compare x [.IsNot] [.Constant (.bool true) _ _] _ => mE T a S x | _ => false)
  | .dne a b, S, e => (match e with | .Compare x [.NotEq] [y] _ => !behindInMarks .NotEq y && mE T a S x && mE T b S y | _ => false)
  | .lenO d, S, e => (match e with | .Call (.Name n _) [x] [] _ => decide (n = "len") && glB S "len" && notStar x && mE T d S x | _ => false)
  | .notN a, S, e => (match e with | .Compare x [.IsNot] [.Constant .none _ _] _ => mE T a S x | _ => false)
  | .andE a b, S, e => (match e with
    | .BoolOp .And [x, y] _ => mE T a S x && mE T b S y
    | .BoolOp .And (x :: y :: z :: rest) pos => mE T a S x && mE T b S (.BoolOp .And (y :: z :: rest) pos)
    | _ => false)
  | .orE a b, S, e => (match e with
    | .BoolOp .Or [x, y] _ => mE T a S x && mE T b S y
    | .BoolOp .Or (x :: y :: z :: rest) pos => mE T a S x && mE T b S (.BoolOp .Or (y :: z :: rest) pos)
    | _ => false)
  | .notE a, S, e => (match e with | .UnaryOp .Not x _ => mE T a S x | _ => false)
  | .ife c a b, S, e => (match e with | .IfExp x y z _ => mE T c S x && mE T a S y && mE T b S z | _ => false)
  | .attr d f, S, e => (match e with | .Attribute x g _ => decide (f = g) && baseB x && mE T d S x | _ => false)
  | .sub a b, S, e => (match e with | .Subscript x y _ => notSlc y && mE T a S x && mE T b S y | _ => false)
  | .slc a lo hi, S, e => (match e with
    | .Subscript x (.Slice l h none _) _ => mE T a S x && (match l with | none => isAnil lo | some y => !isAnil lo && mE T lo S y) && (match h with | none => isAnil hi | some y => !isAnil hi && mE T hi S y)
    | _ => false)
  | .rev a, S, e => (match e with | .Subscript x (.Slice none none (some (.UnaryOp .USub (.Constant (.int 1) _ _) _)) _) _ => mE T a S x | _ => false)
  | .call f _ r, S, e => (match e with | .Call (.Name x _) es [] p => decide (T.fnm f = some x) && glB S x && okN x && noStars es && mE T r S (.Tuple es 0 p) | _ => false)
  | .make c _ r, S, e => (match e with | .Call (.Name x _) (y :: es) [] p => decide (T.cnm c = some x) && decide (T.kwo c = []) && glB S x && okN x && noStars (y :: es) && mE T r S (.Tuple (y :: es) 0 p) | _ => false)
  | .mkK c _ r kr ks, S, e => (match e with
    | .Call (.Name x _) (y :: es) kws p => decide (T.cnm c = some x) && !decide (T.kwo c = []) && glB S x && okN x && noStars (y :: es) && mE T r S (.Tuple (y :: es) 0 p) && decide ((y :: es).length = T.npo c) && kwB kws ks && ks.isSublist (T.kwo c) && !ks.isEmpty && mE T kr S (.Tuple (kws.map (·.value)) 0 p)
    | _ => false)
  | .meth d m _ r, S, e => (match e with | .Call (.Attribute o a ap) es [] p => decide (m = a) && baseB o && noStars es && decide (es.length < 30) && (ap.endLine == p.line) && mE T d S o && mE T r S (.Tuple es 0 p) | _ => false)
  | .blt b r, S, e => (match e with
    | .Call (.Name x _) [y] [] p => (if b = .lrng then (match y with
        | .Call (.Name z _) [w] [] _ => decide (x = "list") && decide (z = "range") && glB S "list" && glB S "range" && mE T r S (.Tuple [w] 0 p)
        | _ => false) else decide (bltN b = some x) && glB S x && mE T r S (.Tuple [y] 0 p))
    | _ => false)
  | .bm d b r, S, e => (match e with
    | .Call (.Attribute o m ap) [y] [] p => decide (bmN b = some m) && baseB o && (ap.endLine == p.line) && mE T d S o && mE T r S (.Tuple [y] 0 p)
    | _ => false)
  | .isi d ts, S, e => (match e, ts with
    | .Call (.Name n _) [x, .Name y _] [] _, [t] => decide (n = "isinstance") && glB S "isinstance" && glB S y && okN y && tyB T t y && notStar x && mE T d S x
    | _, _ => false)
  | .lc elt tg own k it cond, S, e => (match e with
    | .ListComp x [⟨tgE, iter, ifs, 0⟩] scope _ => blkB S scope own && (tgL tg).all own.contains && tgB (S.blk scope) tg tgE && !setDisp iter && mE T elt (S.blk scope) x
        && (match ifs with | [] => isCstT cond | [c] => !isCstT cond && mE T cond (S.blk scope) c | _ => false)
        && (match k with
          | .val => mE T it S (.Tuple [iter] 0 iter.pos)
          | .range => (match iter with
            | .Call (.Name z _) [w] [] p => decide (z = "range") && glB S "range" && mE T it S (.Tuple [w] 0 p)
            | _ => false)
          | .zip => (match iter, tgE with
            | .Call (.Name z _) [w, v] [] p, .Tuple _ _ _ => decide (z = "zip") && glB S "zip" && mE T it S (.Tuple [w, v] 0 p)
            | _, _ => false)
          | _ => false)
    | _ => false)
  | .dc t key val tg own k it cond, S, e => (match e with
    | .DictComp x y [⟨tgE, iter, ifs, 0⟩] scope _ => t && blkB S scope own && (tgL tg).all own.contains && tgB (S.blk scope) tg tgE && !setDisp iter && mE T key (S.blk scope) x && mE T val (S.blk scope) y
        && (match ifs with | [] => isCstT cond | [c] => !isCstT cond && mE T cond (S.blk scope) c | _ => false)
        && decide (k = .val) && mE T it S (.Tuple [iter] 0 iter.pos)
    | _ => false)
  | .frz d, S, e => mE T d S e
end Zk
-- Zk26
set_option maxHeartbeats 4000000
namespace Zk
open PySem PySem.Spec L2

section
variable {X : Cx} {S : Sx} {x : Str} {i : Nat}
theorem lk_X (h : XOk X S) : X.env.scope.names.lookup x = lk S x := by unfold lk; rw [h.sc]
theorem visB_ok (h : XOk X S) (v : visB S x = true) : Vis X.env.scope x := by
  unfold Vis
  rw [lk_X h]
  simp only [visB, Bool.or_eq_true, decide_eq_true_eq] at v
  rcases v with (v | v) | v
  · exact .inl v
  · exact .inr (.inl v)
  · exact .inr (.inr v)
theorem glB_ok (h : XOk X S) (v : glB S x = true) : Gl X x := by
  show X.env.scope.names.lookup x = some .globalImplicit
  rw [lk_X h]
  simpa [glB] using v
theorem atB_ok (h : XOk X S) (v : atB S i x = true) : X.N[i]? = some x := by rw [h.N]; simpa [atB] using v
theorem okN_ok (v : okN x = true) : (x == ("__debug__" : Str)) = false ∧ (x == ("__classdict__" : Str)) = false := by
  simpa only [okN, Bool.and_eq_true, Bool.not_eq_true'] using v
theorem setB_ok (h : XOk X S) {e : Expr} (v : setB S i e = true) : NmOk X e i := by
  cases e with
  | Name y pos =>
    simp only [setB, Bool.and_eq_true, Bool.or_eq_true, decide_eq_true_eq] at v
    refine ⟨y, pos, rfl, atB_ok h v.1, ?_⟩
    rw [lk_X h, h.fn]
    exact v.2
  | _ => simp [setB] at v
theorem setsB_ok (h : XOk X S) : ∀ {is : List Nat} {es : List Expr}, setsB S is es = true → NmsOk X es is
  | [], [], _ => .nil
  | i :: is, e :: es, v => by
    simp only [setsB, Bool.and_eq_true] at v
    exact .cons (setB_ok h v.1) (setsB_ok h v.2)
  | [], e :: es, v => by simp [setsB] at v
  | i :: is, [], v => by simp [setsB] at v
theorem tgB_ok {Z : Wd} {W : WX} {k : Nat} (C : Cok Z k X W) (h : XOk X S) {tg : Tg} {e : Expr} (v : tgB S tg e = true) : PG X e (gZ Z tg) := by
  cases tg with
  | one i => exact g_one C.nd (setB_ok h v)
  | many is =>
    cases e with
    | Tuple es k p => exact g_many C (setsB_ok h v)
    | _ => simp [tgB] at v
theorem ownP_snd : ∀ own : List Nat, (ownP S own).map (·.2) = own
  | [] => rfl
  | i :: own => by
    have h := ownP_snd own
    unfold ownP at h ⊢
    simp only [List.map_cons, h]
theorem blkB_ok (h : XOk X S) {scope : Scope} {own : List Nat} (v : blkB S scope own = true) : BlkOk X.N X.env.scope scope (ownP S own) := by
  simp only [blkB, Bool.and_eq_true, decide_eq_true_eq, List.all_eq_true, Bool.or_eq_true, Bool.not_eq_true', decide_eq_false_iff_not, List.contains_iff_mem] at v
  obtain ⟨⟨⟨⟨v1, v2⟩, v3⟩, v4⟩, v5⟩ := v
  refine ⟨v1, v2, fun p hp => ?_, fun y hy e => ?_, fun y hy e => ?_⟩
  · obtain ⟨j, hj, rfl⟩ := List.mem_map.mp hp
    have := v3 j hj
    rw [h.N]
    obtain ⟨n, hn⟩ := Option.isSome_iff_exists.mp this
    simp [hn]
  · rcases v4 y hy with (q | q) | q
    · exact (q e).elim
    · exact .inl (by rw [lk_X h]; exact q)
    · exact .inr (by rw [lk_X h]; exact q)
  · rcases v5 y hy with (q | q) | q
    · rw [Bool.or_eq_false_iff] at q
      simp only [decide_eq_false_iff_not] at q
      rcases e with e | e
      · exact (q.1 e).elim
      · exact (q.2 e).elim
    · exact .inl q
    · refine .inr ?_
      rw [h.N]
      intro z
      rw [List.contains_iff_mem.mpr z] at q
      cases q
theorem base_ok {o : Expr} {m : Str} {env : Env} {w : Sem Value} (h : baseB o = true) : attributeBase o m env w = w := by
  unfold attributeBase
  split
  · cases h
  · rfl
theorem ix_ok {y : Expr} (h : notSlc y = true) : PlainIx y := by
  intro o i
  cases y <;> first | rfl | cases h
def plainV : Expr → Bool
  | .UnaryOp _ _ _ => false
  | .BoolOp _ _ _ => false
  | .IfExp _ _ _ _ => false
  | .Compare _ _ _ _ => false
  | _ => true
theorem val_ok {e : Expr} {env : Env} (h : plainV e = true) (w : Sem Value) : isTrue e env w = (do let v ← w; standAt e.pos; holding [v] (truthy v)) := by
  cases e <;> first | rfl | cases h
theorem fold_ok {e : Expr} {env : Env} (h : setDisp e = false) (x : Value) : foldedSetIterable e env x = pure x := by
  cases e <;> first | rfl | cases h
end
end Zk
-- Zk27
set_option maxHeartbeats 4000000
namespace Zk
open PySem PySem.Spec L2

/-- what is known of the program -/
structure Rls (Z : Wd) (T : Tabs) (call : Calls) (k : Nat) : Prop where
  F : FnsOk Z T call k
  TO : TabsOk Z T
  B : BltOk Z
  J : IsiOk Z T
  MO : MkOk Z T
  MK : ∀ c x, T.cnm c = some x → T.kwo c ≠ [] → MkK Z T c x
  G : ∀ x p, T.glb x = some p → GlbOk Z x p
def isArg : SE → Bool
  | .anil => true
  | .acons _ _ => true
  | .astar _ _ => true
  | _ => false
/-- may stand as a test -/
def tstD : SE → Bool
  | .anil => false
  | .acons _ _ => false
  | .astar _ _ => false
  | .ife _ _ _ => false
  | .neg _ => false
  | .frz _ => false
  | _ => true
theorem Cok.dn {Z : Wd} {k : Nat} {X : Cx} {W : WX} (C : Cok Z (k + 1) X W) : Cok Z k X W := { C with room := C.room.mono (Nat.le_succ k) }
structure Snd (Z : Wd) (T : Tabs) (call : Calls) (k : Nat) (d : SE) : Prop where
  pe : ∀ (S : Sx) (X : Cx) (W : WX) (e : Expr), Cok Z (k + 1) X W → XOk X S → isArg d = false → mE T d S e = true → PE X e (tE Z W (ev T call d))
  pa : ∀ (S : Sx) (X : Cx) (W : WX) (es : List Expr) (n : Nat) (p : Pos), Cok Z (k + 1) X W → XOk X S → isArg d = true → mE T d S (.Tuple es n p) = true → PA X es (tA Z W (ev T call d))
  pt : ∀ (S : Sx) (X : Cx) (W : WX) (e : Expr), Cok Z (k + 1) X W → XOk X S → tstD d = true → mE T d S e = true → PT X e (tT Z W (ev T call d))
  pw : ∀ (S : Sx) (X : Cx) (W : WX) (op : BoolOp) (es : List Expr) (p : Pos), Cok Z (k + 1) X W → XOk X S → mE T d S (.BoolOp op es p) = true → isArg d = false → PW X (.BoolOp op es p) (tT Z W (ev T call d))
section
variable {Z : Wd} {T : Tabs} {call : Calls} {k : Nat} {a b c d r : SE}
theorem sh_no {d : SE} {S : Sx} {e : Expr} (h : mE T d S e = true) (h1 : ∀ op x p, mE T d S (.UnaryOp op x p) = false) (h2 : ∀ op x p, mE T d S (.BoolOp op x p) = false) (h3 : ∀ x y z p, mE T d S (.IfExp x y z p) = false) (h4 : ∀ x y z p, mE T d S (.Compare x y z p) = false) : plainV e = true := by
  cases e with
  | UnaryOp op x p => rw [h1] at h; cases h
  | BoolOp op x p => rw [h2] at h; cases h
  | IfExp x y z p => rw [h3] at h; cases h
  | Compare x y z p => rw [h4] at h; cases h
  | _ => rfl
/-- a node that is a value, never a test of its own form -/
theorem Snd.val (ha : isArg d = false) (pe : ∀ (S : Sx) (X : Cx) (W : WX) (e : Expr), Cok Z (k + 1) X W → XOk X S → mE T d S e = true → PE X e (tE Z W (ev T call d)))
    (sh : ∀ (S : Sx) (e : Expr), mE T d S e = true → plainV e = true) : Snd Z T call k d where
  pe := fun S X W e C O _ h => pe S X W e C O h
  pa := fun S X W es n p C O z h => by rw [ha] at z; cases z
  pt := fun S X W e C O _ h => t_val (pe S X W e C O h) fun w => val_ok (sh S e h) w
  pw := fun S X W op es p C O h _ => by have := sh S _ h; cases this
theorem sn_anil : Snd Z T call k .anil where
  pe := fun S X W e C O z h => by cases z
  pa := fun S X W es n p C O _ h => by
    cases es with
    | nil => exact s_anil
    | cons x xs => simp [mE] at h
  pt := fun S X W e C O z h => by cases z
  pw := fun S X W op es p C O h z => by cases z
theorem sn_acons (h1 : Snd Z T call k d) (h2 : Snd Z T call k r) (n1 : isArg d = false) (n2 : isArg r = true) : Snd Z T call k (.acons d r) where
  pe := fun S X W e C O z h => by cases z
  pa := fun S X W es n p C O _ h => by
    cases es with
    | nil => simp [mE] at h
    | cons x xs =>
      simp only [mE, Bool.and_eq_true] at h
      exact s_acons h.1.1 (h1.pe S X W x C O n1 h.1.2) (h2.pa S X W xs n p C O n2 h.2)
  pt := fun S X W e C O z h => by cases z
  pw := fun S X W op es p C O h z => by cases z
theorem sn_astar (h1 : Snd Z T call k d) (h2 : Snd Z T call k r) (n1 : isArg d = false) (n2 : isArg r = true) : Snd Z T call k (.astar d r) where
  pe := fun S X W e C O z h => by cases z
  pa := fun S X W es n p C O _ h => by
    cases es with
    | nil => simp [mE] at h
    | cons x xs =>
      cases x with
      | Starred y q =>
        simp only [mE, Bool.and_eq_true] at h
        exact s_astar C (h1.pe S X W y C O n1 h.1) (h2.pa S X W xs n p C O n2 h.2)
      | _ => cases h
  pt := fun S X W e C O z h => by cases z
  pw := fun S X W op es p C O h z => by cases z
theorem sn_var {i : Nat} : Snd Z T call k (.var i) := by
  refine .val rfl (fun S X W e C O h => ?_) fun S e h => sh_no h (fun _ _ _ => rfl) (fun _ _ _ => rfl) (fun _ _ _ _ => rfl) (fun _ _ _ _ => rfl)
  · cases e with
    | Name x p =>
      simp only [mE, Bool.and_eq_true] at h
      obtain ⟨o1, o2⟩ := okN_ok h.2
      exact s_var (atB_ok O h.1.1) (visB_ok O h.1.2) o1 o2
    | _ => cases h
theorem sn_cst {v : PV} : Snd Z T call k (.cst v) := by
  refine .val rfl (fun S X W e C O h => ?_) fun S e h => sh_no h (fun _ _ _ => rfl) (fun _ _ _ => rfl) (fun _ _ _ _ => rfl) (fun _ _ _ _ => rfl)
  · cases e with
    | Constant c i p =>
      simp only [mE] at h
      cases v with
      | non => cases c <;> simp [mC] at h; exact s_non
      | bl x => cases c <;> simp [mC] at h; subst h; exact s_bl
      | int x => cases c <;> simp [mC] at h; subst h; exact s_int
      | str x => cases c <;> simp [mC] at h; subst h; exact s_str
      | _ => simp [mC] at h
    | _ => cases h
theorem sn_glb {x : Str} (L : Rls Z T call k) : Snd Z T call k (.glb x) := by
  refine .val rfl (fun S X W e C O h => ?_) fun S e h => sh_no h (fun _ _ _ => rfl) (fun _ _ _ => rfl) (fun _ _ _ _ => rfl) (fun _ _ _ _ => rfl)
  · cases e with
    | Name y p =>
      simp only [mE, Bool.and_eq_true, decide_eq_true_eq] at h
      obtain ⟨⟨⟨rfl, h2⟩, h3⟩, h4⟩ := h
      obtain ⟨v, hv⟩ := Option.isSome_iff_exists.mp h3
      have := s_glb (pos := p) C (glB_ok O h2) (L.G x v hv) (okN_ok h4).1
      have e : (ev T call (.glb x)) = fun _ M => .ok v M := by
        funext ρ M
        simp only [ev, hv, R.of]
      rw [e]
      exact this
    | _ => cases h
theorem sn_tup (h1 : Snd Z T call k r) (n1 : isArg r = true) : Snd Z T call k (.tup r) := by
  refine .val rfl (fun S X W e C O h => ?_) fun S e h => sh_no h (fun _ _ _ => rfl) (fun _ _ _ => rfl) (fun _ _ _ _ => rfl) (fun _ _ _ _ => rfl)
  · cases e with
    | Tuple es n p => simp only [mE] at h; exact s_tup (h1.pa S X W es n p C O n1 h)
    | _ => cases h
theorem sn_lst {m : Bool} (h1 : Snd Z T call k r) (n1 : isArg r = true) : Snd Z T call k (.lst m r) := by
  refine .val rfl (fun S X W e C O h => ?_) fun S e h => sh_no h (fun _ _ _ => rfl) (fun _ _ _ => rfl) (fun _ _ _ _ => rfl) (fun _ _ _ _ => rfl)
  · cases e with
    | List es p => simp only [mE] at h; exact s_lst (h1.pa S X W es 0 p C O n1 h)
    | _ => cases h
theorem sn_bop {o : BOp} (h1 : Snd Z T call k a) (h2 : Snd Z T call k b) (n1 : isArg a = false) (n2 : isArg b = false) : Snd Z T call k (.bop o a b) := by
  refine .val rfl (fun S X W e C O h => ?_) fun S e h => sh_no h (fun _ _ _ => rfl) (fun _ _ _ => rfl) (fun _ _ _ _ => rfl) (fun _ _ _ _ => rfl)
  · cases e with
    | BinOp x op y p =>
      simp only [mE, Bool.and_eq_true] at h
      exact s_bop o (by have := h.1.1; cases o <;> cases op <;> first | rfl | cases this) C (h1.pe S X W x C O n1 h.1.2) (h2.pe S X W y C O n2 h.2)
    | _ => cases h
theorem sn_neg (h1 : Snd Z T call k a) (n1 : isArg a = false) : Snd Z T call k (.neg a) where
  pe := fun S X W e C O _ h => by
    cases e with
    | UnaryOp op x p =>
      cases op with
      | USub => simp only [mE] at h; exact s_neg (h1.pe S X W x C O n1 h)
      | _ => cases h
    | _ => cases h
  pa := fun S X W es n p C O z h => by cases z
  pt := fun S X W e C O z h => by cases z
  pw := fun S X W op es p C O h z => by cases h
theorem sn_cmp {o : COp} (h1 : Snd Z T call k a) (h2 : Snd Z T call k b) (n1 : isArg a = false) (n2 : isArg b = false) : Snd Z T call k (.cmp o a b) where
  pe := fun S X W e C O _ h => by
    simp only [mE] at h
    split at h
    · simp only [Bool.and_eq_true, decide_eq_true_eq, Bool.not_eq_true'] at h
      obtain ⟨⟨⟨rfl, h4⟩, h5⟩, h6⟩ := h
      exact s_cmp o C h4 (h1.pe S X W _ C O n1 h5) (h2.pe S X W _ C O n2 h6)
    · cases h
  pa := fun S X W es n p C O z h => by cases z
  pt := fun S X W e C O _ h => by
    simp only [mE] at h
    split at h
    · simp only [Bool.and_eq_true, decide_eq_true_eq, Bool.not_eq_true'] at h
      obtain ⟨⟨⟨rfl, h4⟩, h5⟩, h6⟩ := h
      exact t_cmp o C h4 (h1.pe S X W _ C O n1 h5) (h2.pe S X W _ C O n2 h6)
    · cases h
  pw := fun S X W op es p C O h z => by cases h
theorem sn_chain {o o' : COp} (h1 : Snd Z T call k a) (h2 : Snd Z T call k b) (h3 : Snd Z T call k c) (n1 : isArg a = false) (n2 : isArg b = false) (n3 : isArg c = false) : Snd Z T call k (.chain o o' a b c) where
  pe := fun S X W e C O _ h => by
    simp only [mE] at h
    split at h
    · simp only [Bool.and_eq_true, decide_eq_true_eq, Bool.not_eq_true'] at h
      obtain ⟨⟨⟨⟨⟨rfl, rfl⟩, h4⟩, h5⟩, h6⟩, h7⟩ := h
      exact s_chain o o' C h4 (h1.pe S X W _ C O n1 h5) (h2.pe S X W _ C O n2 h6) (h3.pe S X W _ C O n3 h7)
    · cases h
  pa := fun S X W es n p C O z h => by cases z
  pt := fun S X W e C O _ h => by
    simp only [mE] at h
    split at h
    · simp only [Bool.and_eq_true, decide_eq_true_eq, Bool.not_eq_true'] at h
      obtain ⟨⟨⟨⟨⟨rfl, rfl⟩, h4⟩, h5⟩, h6⟩, h7⟩ := h
      exact t_chain o o' C h4 (h1.pe S X W _ C O n1 h5) (h2.pe S X W _ C O n2 h6) (h3.pe S X W _ C O n3 h7)
    · cases h
  pw := fun S X W op es p C O h z => by cases h
theorem sn_isN (h1 : Snd Z T call k a) (n1 : isArg a = false) : Snd Z T call k (.isN a) where
  pe := fun S X W e C O _ h => by
    simp only [mE] at h
    split at h
    · exact s_isN (h1.pe S X W _ C O n1 h)
    · cases h
  pa := fun S X W es n p C O z h => by cases z
  pt := fun S X W e C O _ h => by
    simp only [mE] at h
    split at h
    · exact t_isN (h1.pe S X W _ C O n1 h)
    · cases h
  pw := fun S X W op es p C O h z => by cases h
theorem sn_notN (h1 : Snd Z T call k a) (n1 : isArg a = false) : Snd Z T call k (.notN a) where
  pe := fun S X W e C O _ h => by
    simp only [mE] at h
    split at h
    · exact s_notN (h1.pe S X W _ C O n1 h)
    · cases h
  pa := fun S X W es n p C O z h => by cases z
  pt := fun S X W e C O _ h => by
    simp only [mE] at h
    split at h
    · exact t_notN (h1.pe S X W _ C O n1 h)
    · cases h
  pw := fun S X W op es p C O h z => by cases h
theorem sn_notT (h1 : Snd Z T call k a) (n1 : isArg a = false) : Snd Z T call k (.notT a) where
  pe := fun S X W e C O _ h => by
    simp only [mE] at h
    split at h
    · exact s_notT (h1.pe S X W _ C O n1 h)
    · cases h
  pa := fun S X W es n p C O z h => by cases z
  pt := fun S X W e C O _ h => by
    simp only [mE] at h
    split at h
    · exact t_notT (h1.pe S X W _ C O n1 h)
    · cases h
  pw := fun S X W op es p C O h z => by cases h
theorem sn_dne (h1 : Snd Z T call k a) (h2 : Snd Z T call k b) (n1 : isArg a = false) (n2 : isArg b = false) : Snd Z T call k (.dne a b) where
  pe := fun S X W e C O _ h => by
    simp only [mE] at h
    split at h
    · simp only [Bool.and_eq_true, Bool.not_eq_true'] at h
      exact s_dne C h.1.1 (h1.pe S X W _ C O n1 h.1.2) (h2.pe S X W _ C O n2 h.2)
    · cases h
  pa := fun S X W es n p C O z h => by cases z
  pt := fun S X W e C O _ h => by
    simp only [mE] at h
    split at h
    · simp only [Bool.and_eq_true, Bool.not_eq_true'] at h
      exact t_dne C h.1.1 (h1.pe S X W _ C O n1 h.1.2) (h2.pe S X W _ C O n2 h.2)
    · cases h
  pw := fun S X W op es p C O h z => by cases h
theorem PW.pt {X : Cx} {op : BoolOp} {es : List Expr} {p : Pos} {t : TT} (h : PW X (.BoolOp op es p) t) : PT X (.BoolOp op es p) t := ⟨fun pins s σ H Q I q => h.run _ pins s σ H Q I q⟩
theorem and_pw (h1 : Snd Z T call k a) (h2 : Snd Z T call k b) (n1 : isArg a = false) (n2 : isArg b = false) (t1 : tstD a = true) (t2 : tstD b = true) (S : Sx) (X : Cx) (W : WX) (e : Expr) (C : Cok Z (k + 1) X W) (O : XOk X S) (h : mE T (.andE a b) S e = true) :
    ∃ es p, e = .BoolOp .And es p ∧ PW X (.BoolOp .And es p) (tT Z W (ev T call (.andE a b))) ∧ PE X (.BoolOp .And es p) (tE Z W (ev T call (.andE a b))) := by
  simp only [mE] at h
  split at h
  · simp only [Bool.and_eq_true] at h
    exact ⟨_, _, rfl, w_and (h1.pt S X W _ C O t1 h.1) (pw_and1 (h2.pt S X W _ C O t2 h.2)), s_and (h1.pe S X W _ C O n1 h.1) (pe_one (h2.pe S X W _ C O n2 h.2))⟩
  · simp only [Bool.and_eq_true] at h
    exact ⟨_, _, rfl, w_and (h1.pt S X W _ C O t1 h.1) (h2.pw S X W _ _ _ C O h.2 n2), s_and (h1.pe S X W _ C O n1 h.1) (h2.pe S X W _ C O n2 h.2)⟩
  · cases h
theorem or_pw (h1 : Snd Z T call k a) (h2 : Snd Z T call k b) (n1 : isArg a = false) (n2 : isArg b = false) (t1 : tstD a = true) (t2 : tstD b = true) (S : Sx) (X : Cx) (W : WX) (e : Expr) (C : Cok Z (k + 1) X W) (O : XOk X S) (h : mE T (.orE a b) S e = true) :
    ∃ es p, e = .BoolOp .Or es p ∧ PW X (.BoolOp .Or es p) (tT Z W (ev T call (.orE a b))) ∧ PE X (.BoolOp .Or es p) (tE Z W (ev T call (.orE a b))) := by
  simp only [mE] at h
  split at h
  · simp only [Bool.and_eq_true] at h
    exact ⟨_, _, rfl, w_or (h1.pt S X W _ C O t1 h.1) (pw_or1 (h2.pt S X W _ C O t2 h.2)), s_or (h1.pe S X W _ C O n1 h.1) (pe_one (h2.pe S X W _ C O n2 h.2))⟩
  · simp only [Bool.and_eq_true] at h
    exact ⟨_, _, rfl, w_or (h1.pt S X W _ C O t1 h.1) (h2.pw S X W _ _ _ C O h.2 n2), s_or (h1.pe S X W _ C O n1 h.1) (h2.pe S X W _ C O n2 h.2)⟩
  · cases h
theorem sn_and (h1 : Snd Z T call k a) (h2 : Snd Z T call k b) (n1 : isArg a = false) (n2 : isArg b = false) (t1 : tstD a = true) (t2 : tstD b = true) : Snd Z T call k (.andE a b) where
  pe := fun S X W e C O _ h => by obtain ⟨es, p, rfl, _, q⟩ := and_pw h1 h2 n1 n2 t1 t2 S X W e C O h; exact q
  pa := fun S X W es n p C O z h => by cases z
  pt := fun S X W e C O _ h => by obtain ⟨es, p, rfl, q, _⟩ := and_pw h1 h2 n1 n2 t1 t2 S X W e C O h; exact PW.pt q
  pw := fun S X W op es p C O h z => by obtain ⟨es', p', e, q, _⟩ := and_pw h1 h2 n1 n2 t1 t2 S X W _ C O h; cases e; exact q
theorem sn_or (h1 : Snd Z T call k a) (h2 : Snd Z T call k b) (n1 : isArg a = false) (n2 : isArg b = false) (t1 : tstD a = true) (t2 : tstD b = true) : Snd Z T call k (.orE a b) where
  pe := fun S X W e C O _ h => by obtain ⟨es, p, rfl, _, q⟩ := or_pw h1 h2 n1 n2 t1 t2 S X W e C O h; exact q
  pa := fun S X W es n p C O z h => by cases z
  pt := fun S X W e C O _ h => by obtain ⟨es, p, rfl, q, _⟩ := or_pw h1 h2 n1 n2 t1 t2 S X W e C O h; exact PW.pt q
  pw := fun S X W op es p C O h z => by obtain ⟨es', p', e, q, _⟩ := or_pw h1 h2 n1 n2 t1 t2 S X W _ C O h; cases e; exact q
theorem sn_not (h1 : Snd Z T call k a) (n1 : isArg a = false) (t1 : tstD a = true) : Snd Z T call k (.notE a) where
  pe := fun S X W e C O _ h => by
    simp only [mE] at h
    split at h
    · exact s_not (h1.pe S X W _ C O n1 h)
    · cases h
  pa := fun S X W es n p C O z h => by cases z
  pt := fun S X W e C O _ h => by
    simp only [mE] at h
    split at h
    · exact t_not (h1.pt S X W _ C O t1 h)
    · cases h
  pw := fun S X W op es p C O h z => by cases h
theorem sn_ife (h1 : Snd Z T call k c) (h2 : Snd Z T call k a) (h3 : Snd Z T call k b) (t1 : tstD c = true) (n2 : isArg a = false) (n3 : isArg b = false) : Snd Z T call k (.ife c a b) where
  pe := fun S X W e C O _ h => by
    simp only [mE] at h
    split at h
    · simp only [Bool.and_eq_true] at h
      exact s_ife (h1.pt S X W _ C O t1 h.1.1) (h2.pe S X W _ C O n2 h.1.2) (h3.pe S X W _ C O n3 h.2)
    · cases h
  pa := fun S X W es n p C O z h => by cases z
  pt := fun S X W e C O z h => by cases z
  pw := fun S X W op es p C O h z => by cases h
end
end Zk
-- Zk28
set_option maxHeartbeats 4000000
namespace Zk
open PySem PySem.Spec L2

section
variable {Z : Wd} {T : Tabs} {call : Calls} {k : Nat} {a b c d r : SE}
theorem sn_attr {f : Str} (L : Rls Z T call k) (h1 : Snd Z T call k d) (n1 : isArg d = false) : Snd Z T call k (.attr d f) := by
  refine .val rfl (fun S X W e C O h => ?_) fun S e h => sh_no h (fun _ _ _ => rfl) (fun _ _ _ => rfl) (fun _ _ _ _ => rfl) (fun _ _ _ _ => rfl)
  simp only [mE] at h
  split at h
  · simp only [Bool.and_eq_true, decide_eq_true_eq] at h
    obtain ⟨⟨rfl, h2⟩, h3⟩ := h
    exact s_attr C L.TO.fld (base_ok h2) (h1.pe S X W _ C O n1 h3)
  · cases h
theorem sn_sub (h1 : Snd Z T call k a) (h2 : Snd Z T call k b) (n1 : isArg a = false) (n2 : isArg b = false) : Snd Z T call k (.sub a b) := by
  refine .val rfl (fun S X W e C O h => ?_) fun S e h => sh_no h (fun _ _ _ => rfl) (fun _ _ _ => rfl) (fun _ _ _ _ => rfl) (fun _ _ _ _ => rfl)
  simp only [mE] at h
  split at h
  · simp only [Bool.and_eq_true] at h
    exact s_sub C (ix_ok h.1.1) (h1.pe S X W _ C O n1 h.1.2) (h2.pe S X W _ C O n2 h.2)
  · cases h
theorem isAnil_eq {d : SE} (h : isAnil d = true) : d = .anil := by
  cases d <;> first | rfl | cases h
theorem sn_slc {lo hi : SE} (h1 : Snd Z T call k a) (h2 : isAnil lo = false → Snd Z T call k lo) (h3 : isAnil hi = false → Snd Z T call k hi) (n1 : isArg a = false) (n2 : isAnil lo = false → isArg lo = false) (n3 : isAnil hi = false → isArg hi = false) : Snd Z T call k (.slc a lo hi) := by
  refine .val rfl (fun S X W e C O h => ?_) fun S e h => sh_no h (fun _ _ _ => rfl) (fun _ _ _ => rfl) (fun _ _ _ _ => rfl) (fun _ _ _ _ => rfl)
  simp only [mE] at h
  split at h
  · rename_i x l hh p1 p2
    simp only [Bool.and_eq_true] at h
    obtain ⟨⟨g1, g2⟩, g3⟩ := h
    have po : ∀ {q : SE} {y : Option Expr}, (isAnil q = false → Snd Z T call k q) → (isAnil q = false → isArg q = false) → (match y with | none => isAnil q | some z => !isAnil q && mE T q S z) = true → PO X y (tO Z W (isAnil q) (ev T call q)) := by
      intro q y k1 k2 k3
      cases y with
      | none =>
        have e := isAnil_eq (d := q) k3
        subst e
        exact o_none
      | some z =>
        simp only [Bool.and_eq_true, Bool.not_eq_true'] at k3
        rw [k3.1]
        exact o_some ((k1 k3.1).pe S X W z C O (k2 k3.1) k3.2)
    exact s_slc C (h1.pe S X W _ C O n1 g1) (po h2 n2 g2) (po h3 n3 g3)
  · cases h
theorem sn_rev (h1 : Snd Z T call k a) (n1 : isArg a = false) : Snd Z T call k (.rev a) := by
  refine .val rfl (fun S X W e C O h => ?_) fun S e h => sh_no h (fun _ _ _ => rfl) (fun _ _ _ => rfl) (fun _ _ _ _ => rfl) (fun _ _ _ _ => rfl)
  simp only [mE] at h
  split at h
  · exact s_rev C (h1.pe S X W _ C O n1 h)
  · cases h
theorem sn_frz (h1 : Snd Z T call k d) (n1 : isArg d = false) (hb : ∀ S op es p, mE T d S (.BoolOp op es p) = false) : Snd Z T call k (.frz d) where
  pe := fun S X W e C O _ h => by simp only [mE] at h; exact s_frz (h1.pe S X W e C O n1 h)
  pa := fun S X W es n p C O z h => by cases z
  pt := fun S X W e C O z h => by cases z
  pw := fun S X W op es p C O h z => by simp only [mE] at h; rw [hb] at h; cases h
theorem arg0 {r : SE} {S : Sx} {n : Nat} {p : Pos} (n1 : isArg r = true) (h : mE T r S (.Tuple [] n p) = true) : r = .anil := by
  cases r with
  | anil => rfl
  | acons d r => simp [mE] at h
  | astar d r => simp [mE] at h
  | _ => cases n1
theorem sn_call {f : Nat} {iso : Bool} (L : Rls Z T call k) (h1 : Snd Z T call k r) (n1 : isArg r = true) : Snd Z T call k (.call f iso r) := by
  refine .val rfl (fun S X W e C O h => ?_) fun S e h => sh_no h (fun _ _ _ => rfl) (fun _ _ _ => rfl) (fun _ _ _ _ => rfl) (fun _ _ _ _ => rfl)
  simp only [mE] at h
  split at h
  · rename_i x px es p
    simp only [Bool.and_eq_true, decide_eq_true_eq] at h
    obtain ⟨⟨⟨⟨g1, g2⟩, g3⟩, g4⟩, g5⟩ := h
    cases es with
    | nil =>
      have := arg0 n1 g5
      subst this
      exact s_call0 C.dn L.F L.TO g1 (glB_ok O g2) (okN_ok g3).1
    | cons y es => exact s_call C.dn L.F L.TO g1 (glB_ok O g2) (okN_ok g3).1 g4 (h1.pa S X W _ 0 p C O n1 g5)
  · cases h
theorem sn_make {cc : Nat} {fz : Bool} (L : Rls Z T call k) (h1 : Snd Z T call k r) (n1 : isArg r = true) : Snd Z T call k (.make cc fz r) := by
  refine .val rfl (fun S X W e C O h => ?_) fun S e h => sh_no h (fun _ _ _ => rfl) (fun _ _ _ => rfl) (fun _ _ _ _ => rfl) (fun _ _ _ _ => rfl)
  simp only [mE] at h
  split at h
  · simp only [Bool.and_eq_true, decide_eq_true_eq] at h
    obtain ⟨⟨⟨⟨⟨g1, g2⟩, g3⟩, g4⟩, g5⟩, g6⟩ := h
    exact s_make C L.F L.MO g1 g2 (glB_ok O g3) (okN_ok g4).1 g5 (h1.pa S X W _ 0 _ C O n1 g6)
  · cases h
theorem sn_meth {m : Str} {iso : Bool} (L : Rls Z T call k) (h1 : Snd Z T call k d) (h2 : Snd Z T call k r) (n1 : isArg d = false) (n2 : isArg r = true) : Snd Z T call k (.meth d m iso r) := by
  refine .val rfl (fun S X W e C O h => ?_) fun S e h => sh_no h (fun _ _ _ => rfl) (fun _ _ _ => rfl) (fun _ _ _ _ => rfl) (fun _ _ _ _ => rfl)
  simp only [mE] at h
  split at h
  · rename_i o aa ap es p
    simp only [Bool.and_eq_true, decide_eq_true_eq] at h
    obtain ⟨⟨⟨⟨⟨⟨rfl, g2⟩, g3⟩, g4⟩, g5⟩, g6⟩, g7⟩ := h
    refine s_meth C.dn L.F L.TO (base_ok g2) g3 g4 g5 (h1.pe S X W _ C O n1 g6) (h2.pa S X W _ 0 p C O n2 g7) ?_
    cases es with
    | nil =>
      have := arg0 n2 g7
      subst this
      exact .inr ⟨rfl, rfl⟩
    | cons y es => exact .inl (by simp)
  · cases h
theorem sn_lenO (L : Rls Z T call k) (h1 : Snd Z T call k d) (n1 : isArg d = false) : Snd Z T call k (.lenO d) := by
  refine .val rfl (fun S X W e C O h => ?_) fun S e h => sh_no h (fun _ _ _ => rfl) (fun _ _ _ => rfl) (fun _ _ _ _ => rfl) (fun _ _ _ _ => rfl)
  simp only [mE] at h
  split at h
  · simp only [Bool.and_eq_true, decide_eq_true_eq] at h
    obtain ⟨⟨⟨rfl, g2⟩, g3⟩, g4⟩ := h
    exact s_lenO C L.F L.TO L.B (glB_ok O g2) g3 (h1.pe S X W _ C O n1 g4)
  · cases h
theorem ev_one {a : SE} {ρ : Sl} {M : Store} {f : PV → Store → R PV} : (ev T call (.acons a .anil) ρ M).bind f = (ev T call a ρ M).bind fun v M1 => f (.tup [v]) M1 := by
  have e : ev T call (.acons a .anil) ρ M = (ev T call a ρ M).bind fun v M1 => (R.ok (.tup []) M1).bind fun w M2 => .ok (.tup (v :: bargs w)) M2 := rfl
  rw [e]
  cases ev T call a ρ M <;> rfl
theorem ev_blt {bb : Blt} : ev T call (.blt bb (.acons a .anil)) = fun ρ M => (ev T call a ρ M).bind fun v M1 => bltV bb [v] M1 := by
  funext ρ M
  exact ev_one (f := fun w M1 => bltV bb (bargs w) M1)
theorem ev_bm {bb : BMt} : ev T call (.bm d bb (.acons a .anil)) = fun ρ M => (ev T call d ρ M).bind fun x M1 => if bmOk bb x M1 then (ev T call a ρ M1).bind fun y M2 => bmV bb x [y] M2 else .bad := by
  funext ρ M
  show (ev T call d ρ M).bind (fun x M1 => if bmOk bb x M1 then (ev T call (.acons a .anil) ρ M1).bind fun w M2 => bmV bb x (bargs w) M2 else .bad) = _
  congr 1
  funext x M1
  rw [ev_one (f := fun w M2 => bmV bb x (bargs w) M2)]
  rfl
theorem blt_pe {bb : Blt} {X : Cx} {W : WX} {x : Str} {y : Expr} {p px : Pos} {pe : PE X y (tE Z W (ev T call a))} (L : Rls Z T call k) (C : Cok Z (k + 1) X W) (gl : Gl X x) (g1 : bltN bb = some x) (g3 : notStar y = true) : PE X (.Call (.Name x px) [y] [] p) (tE Z W fun ρ M => (ev T call a ρ M).bind fun v M1 => bltV bb [v] M1) := by
  cases bb with
  | len => cases g1; exact s_len C L.B gl g3 pe
  | all => cases g1; exact s_all C L.B gl g3 pe
  | any => cases g1; exact s_any C L.B gl g3 pe
  | sum => cases g1; exact s_sum C L.B gl g3 pe
  | max => cases g1; exact s_max C L.B gl g3 pe
  | abs => cases g1; exact s_abs C L.B gl g3 pe
  | intI => cases g1; exact s_intI C L.B gl g3 pe
  | lstF => cases g1; exact s_lstF false C L.B gl g3 pe
  | lstM => cases g1; exact s_lstF true C L.B gl g3 pe
  | tupl => cases g1; exact s_tupl C L.B gl g3 pe
  | srt => cases g1; exact s_srt C L.B gl g3 pe
  | dctP => cases g1; exact s_dctP C L.B gl g3 pe
  | _ => cases g1
theorem sn_blt {bb : Blt} (L : Rls Z T call k) (h1 : Snd Z T call k a) (n1 : isArg a = false) : Snd Z T call k (.blt bb (.acons a .anil)) := by
  refine .val rfl (fun S X W e C O h => ?_) fun S e h => sh_no h (fun _ _ _ => rfl) (fun _ _ _ => rfl) (fun _ _ _ _ => rfl) (fun _ _ _ _ => rfl)
  rw [ev_blt]
  simp only [mE] at h
  split at h
  · split at h
    · rename_i hb
      subst hb
      split at h
      · simp only [Bool.and_eq_true, decide_eq_true_eq] at h
        obtain ⟨⟨⟨⟨rfl, rfl⟩, g2⟩, g3⟩, ⟨g4, g5⟩, _⟩ := h
        exact s_lrng C L.B (glB_ok O g2) (glB_ok O g3) g4 (h1.pe S X W _ C O n1 g5)
      · cases h
    · simp only [Bool.and_eq_true, decide_eq_true_eq] at h
      obtain ⟨⟨g1, g2⟩, ⟨g3, g4⟩, _⟩ := h
      exact blt_pe (pe := h1.pe S X W _ C O n1 g4) L C (glB_ok O g2) g1 g3
  · cases h
theorem sn_bm {bb : BMt} (L : Rls Z T call k) (h1 : Snd Z T call k d) (h2 : Snd Z T call k a) (n1 : isArg d = false) (n2 : isArg a = false) : Snd Z T call k (.bm d bb (.acons a .anil)) := by
  refine .val rfl (fun S X W e C O h => ?_) fun S e h => sh_no h (fun _ _ _ => rfl) (fun _ _ _ => rfl) (fun _ _ _ _ => rfl) (fun _ _ _ _ => rfl)
  rw [ev_bm]
  simp only [mE] at h
  split at h
  · simp only [Bool.and_eq_true, decide_eq_true_eq] at h
    obtain ⟨⟨⟨⟨g1, g2⟩, g3⟩, g5⟩, ⟨g4, g6⟩, _⟩ := h
    have pe := h1.pe S X W _ C O n1 g5
    have pa := h2.pe S X W _ C O n2 g6
    cases bb with
    | append => cases g1; exact s_append C (base_ok g2) g3 g4 pe pa
    | popAt => cases g1; exact s_pop0 C (base_ok g2) g3 g4 pe pa
    | index => cases g1; exact s_index C (base_ok g2) g3 g4 pe pa
    | _ => cases g1
  · cases h
theorem sn_dct0 {m t : Bool} : Snd Z T call k (.dct m t .anil .anil) := by
  refine .val rfl (fun S X W e C O h => ?_) fun S e h => sh_no h (fun _ _ _ => rfl) (fun _ _ _ => rfl) (fun _ _ _ _ => rfl) (fun _ _ _ _ => rfl)
  simp only [mE] at h
  split at h
  · exact s_dct0 C
  · simp [isAnil] at h
  · cases h
theorem sn_dct1 {m : Bool} (h1 : Snd Z T call k a) (h2 : Snd Z T call k b) (n1 : isArg a = false) (n2 : isArg b = false) : Snd Z T call k (.dct m true (.acons a .anil) (.acons b .anil)) := by
  refine .val rfl (fun S X W e C O h => ?_) fun S e h => sh_no h (fun _ _ _ => rfl) (fun _ _ _ => rfl) (fun _ _ _ _ => rfl) (fun _ _ _ _ => rfl)
  simp only [mE] at h
  split at h
  · simp [isAnil] at h
  · simp only [Bool.and_eq_true] at h
    obtain ⟨⟨_, ⟨_, g1⟩, _⟩, ⟨_, g2⟩, _⟩ := h
    exact s_dct1 C (h1.pe S X W _ C O n1 g1) (h2.pe S X W _ C O n2 g2)
  · cases h
theorem sn_isi {ts : List Ty} (L : Rls Z T call k) (h1 : Snd Z T call k d) (n1 : isArg d = false) : Snd Z T call k (.isi d ts) := by
  refine .val rfl (fun S X W e C O h => ?_) fun S e h => sh_no h (fun _ _ _ => rfl) (fun _ _ _ => rfl) (fun _ _ _ _ => rfl) (fun _ _ _ _ => rfl)
  simp only [mE] at h
  split at h
  · simp only [Bool.and_eq_true, decide_eq_true_eq] at h
    obtain ⟨⟨⟨⟨⟨⟨rfl, g2⟩, g3⟩, g4⟩, g5⟩, g6⟩, g7⟩ := h
    refine s_isi1 C L.B L.J (glB_ok O g2) (glB_ok O g3) (okN_ok g4).1 ?_ g6 (h1.pe S X W _ C O n1 g7)
    rename_i t
    cases t with
    | b n => simpa only [tyB, Bool.and_eq_true, decide_eq_true_eq] using g5
    | c n => simpa only [tyB, Bool.and_eq_true, decide_eq_true_eq] using g5
  · cases h
end
end Zk
-- Zk29
set_option maxHeartbeats 4000000
namespace Zk
open PySem PySem.Spec L2

def noAst : SE → Bool
  | .anil => true
  | .acons _ r => noAst r
  | _ => false
def one1 : SE → Bool
  | .acons _ .anil => true
  | _ => false
def isVarD : SE → Bool
  | .var _ => true
  | _ => false
def wfE : SE → Bool
  | .anil => true
  | .acons d r => !isArg d && isArg r && wfE d && wfE r
  | .astar d r => !isArg d && isArg r && wfE d && wfE r
  | .var _ => true
  | .cst _ => true
  | .glb _ => true
  | .tup r => isArg r && wfE r
  | .lst _ r => isArg r && wfE r
  | .dct _ t ks vs => (isAnil ks && isAnil vs) || (t && one1 ks && one1 vs && wfE ks && wfE vs)
  | .bop _ a b => !isArg a && !isArg b && wfE a && wfE b
  | .neg a => !isArg a && wfE a
  | .cmp _ a b => !isArg a && !isArg b && wfE a && wfE b
  | .chain _ _ a b c => !isArg a && !isArg b && !isArg c && wfE a && wfE b && wfE c
  | .isN a => !isArg a && wfE a
  | .notT a => !isArg a && wfE a
  | .dne a b => !isArg a && !isArg b && wfE a && wfE b
  | .lenO a => !isArg a && wfE a
  | .notN a => !isArg a && wfE a
  | .andE a b => !isArg a && !isArg b && tstD a && tstD b && wfE a && wfE b
  | .orE a b => !isArg a && !isArg b && tstD a && tstD b && wfE a && wfE b
  | .notE a => !isArg a && tstD a && wfE a
  | .ife c a b => tstD c && !isArg a && !isArg b && wfE c && wfE a && wfE b
  | .attr d _ => !isArg d && wfE d
  | .sub a b => !isArg a && !isArg b && wfE a && wfE b
  | .slc a lo hi => !isArg a && wfE a && (isAnil lo || (!isArg lo && wfE lo)) && (isAnil hi || (!isArg hi && wfE hi))
  | .rev a => !isArg a && wfE a
  | .call _ _ r => isArg r && wfE r
  | .make _ _ r => isArg r && wfE r
  | .mkK _ _ r kr _ => noAst r && noAst kr && wfE r && wfE kr
  | .meth d _ _ r => !isArg d && isArg r && wfE d && wfE r
  | .blt _ r => one1 r && wfE r
  | .bm d _ r => !isArg d && one1 r && wfE d && wfE r
  | .isi d _ => !isArg d && wfE d
  | .lc elt _ _ k it cond => !isArg elt && wfE elt && (isCstT cond || (tstD cond && wfE cond)) && noAst it && (!decide (k = .val) || one1 it) && wfE it
  | .dc _ key val _ _ _ it cond => !isArg key && wfE key && !isArg val && wfE val && (isCstT cond || (tstD cond && wfE cond)) && one1 it && wfE it
  | .frz d => isVarD d
section
variable {Z : Wd} {T : Tabs} {call : Calls} {k : Nat} {a b c d r : SE}
structure Pd (Z : Wd) (T : Tabs) (call : Calls) (k : Nat) (d : SE) : Prop where
  sn : Snd Z T call k d
  pk : noAst d = true → ∀ (S : Sx) (X : Cx) (W : WX) (kws : List Keyword) (n : Nat) (p : Pos), Cok Z (k + 1) X W → XOk X S → mE T d S (.Tuple (kws.map (·.value)) n p) = true → PK X kws (tA Z W (ev T call d))
  el : ∀ a r, d = .acons a r → Snd Z T call k a ∧ isArg a = false
/-- nodes that are no list of arguments -/
theorem Pd.of (h : Snd Z T call k d) (n : isArg d = false) : Pd Z T call k d :=
  ⟨h, (fun z => by cases d <;> first | (cases z; done) | (cases n; done)), (fun a r e => by subst e; cases n)⟩
theorem one1_eq {r : SE} (h : one1 r = true) : ∃ a, r = .acons a .anil := by
  cases r with
  | acons a r => cases r <;> first | exact ⟨a, rfl⟩ | cases h
  | _ => cases h
theorem kw_all {env : Env} {pos : Pos} : ∀ {kws : List Keyword} {ks : List Str}, kwB kws ks = true → (backToKw pos (keywordEach kws env)).all (·.1.isSome) = true ∧ (backToKw pos (keywordEach kws env)).filterMap (·.1) = ks ∧ (backToKw pos (keywordEach kws env)).any (·.1.isNone) = false
  | [], [], _ => ⟨rfl, rfl, rfl⟩
  | ⟨none, v, q⟩ :: kws, k :: ks, h => by simp [kwB] at h
  | ⟨some n, v, q⟩ :: kws, k :: ks, h => by
    simp only [kwB, Bool.and_eq_true, decide_eq_true_eq] at h
    obtain ⟨rfl, h⟩ := h
    obtain ⟨h1, h2, h3⟩ := kw_all (env := env) (pos := pos) h
    unfold backToKw at h1 h2 h3 ⊢
    simp only [keywordEach, List.map_cons, List.all_cons, List.filterMap_cons, List.any_cons, Option.isSome_some, Option.isNone_some, Bool.true_and, Bool.false_or]
    exact ⟨h1, by rw [h2], h3⟩
  | [], k :: ks, h => by simp [kwB] at h
  | ⟨none, v, q⟩ :: kws, [], h => by simp [kwB] at h
  | ⟨some n, v, q⟩ :: kws, [], h => by simp [kwB] at h
theorem ev_len : ∀ {r : SE} {S : Sx} {es : List Expr} {n : Nat} {p : Pos}, noAst r = true → mE T r S (.Tuple es n p) = true → ∀ ρ M w M1, ev T call r ρ M = .ok w M1 → (bargs w).length = es.length
  | .anil, S, es, n, p, _, h, ρ, M, w, M1, e => by
    cases es with
    | nil =>
      have e : R.ok (.tup []) M = .ok w M1 := e
      cases e
      rfl
    | cons x xs => cases h
  | .acons d r, S, es, n, p, hn, h, ρ, M, w, M1, e => by
    cases es with
    | nil => cases h
    | cons x xs =>
      simp only [mE, Bool.and_eq_true] at h
      have e : ((ev T call d ρ M).bind fun v M1 => (ev T call r ρ M1).bind fun w M2 => .ok (.tup (v :: bargs w)) M2) = .ok w M1 := e
      cases q : ev T call d ρ M with
      | bad => rw [q] at e; cases e
      | exc y M2 => rw [q] at e; cases e
      | ok v M2 =>
        rw [q] at e
        have e : ((ev T call r ρ M2).bind fun w M3 => .ok (.tup (v :: bargs w)) M3) = .ok w M1 := e
        cases q2 : ev T call r ρ M2 with
        | bad => rw [q2] at e; cases e
        | exc y M3 => rw [q2] at e; cases e
        | ok u M3 =>
          rw [q2] at e
          have ih := ev_len (r := r) hn h.2 ρ M2 u M3 q2
          have e : R.ok (.tup (v :: bargs u)) M3 = .ok w M1 := e
          cases e
          show (v :: bargs u).length = _
          rw [List.length_cons, List.length_cons, ih]
theorem noAst_arg {r : SE} (h : noAst r = true) : isArg r = true := by cases r <;> first | rfl | cases h
theorem sn_mkK {cc : Nat} {fz : Bool} {kr : SE} {ks : List Str} (L : Rls Z T call k) (h1 : Pd Z T call k r) (h2 : Pd Z T call k kr) (n1 : noAst r = true) (n2 : noAst kr = true) : Snd Z T call k (.mkK cc fz r kr ks) := by
  refine .val rfl (fun S X W e C O h => ?_) fun S e h => sh_no h (fun _ _ _ => rfl) (fun _ _ _ => rfl) (fun _ _ _ _ => rfl) (fun _ _ _ _ => rfl)
  simp only [mE] at h
  split at h
  · rename_i x px y es kws p
    simp only [Bool.and_eq_true, decide_eq_true_eq, Bool.not_eq_true', decide_eq_false_iff_not] at h
    obtain ⟨⟨⟨⟨⟨⟨⟨⟨⟨⟨g1, g2⟩, g3⟩, g4⟩, g5⟩, g6⟩, g7⟩, g8⟩, g9⟩, g10⟩, g11⟩ := h
    obtain ⟨q1, q2, q3⟩ := kw_all (env := X.env) (pos := p) g8
    have gs : (y :: es).all notStar = true := g5
    have hpl : ((backTo p (starEach (y :: es) X.env)).any (·.1) || (backToKw p (keywordEach kws X.env)).any (·.1.isNone)) = false := by
      rw [any_stars g5, q3]; rfl
    exact s_makeK C L.F (L.MK cc x g1 g2) g7 (by intro z; rw [z] at g10; cases g10) (List.isSublist_iff_sublist.mp g9) (glB_ok O g3) (okN_ok g4).1 g5 q1 q2 hpl (h1.sn.pa S X W _ 0 p C O (noAst_arg n1) g6) (h2.pk n2 S X W kws 0 p C O g11) (ev_len n1 g6)
  · cases h
theorem noAst_ns : ∀ {r : SE} {S : Sx} {es : List Expr} {n : Nat} {p : Pos}, noAst r = true → mE T r S (.Tuple es n p) = true → noStars es = true
  | .anil, S, es, n, p, _, h => by
    cases es with
    | nil => rfl
    | cons x xs => cases h
  | .acons d r, S, es, n, p, hn, h => by
    cases es with
    | nil => cases h
    | cons x xs =>
      simp only [mE, Bool.and_eq_true] at h
      have ih := noAst_ns (r := r) hn h.2
      show (x :: xs).all notStar = true
      rw [List.all_cons, h.1.1]
      exact ih
theorem it_pi {ik : ItK} {it : SE} {S : Sx} {X : Cx} {W : WX} {tgE iter : Expr} (L : Rls Z T call k) (C : Cok Z (k + 1) X W) (O : XOk X S) (h1 : Pd Z T call k it) (n1 : noAst it = true)
    (h : (match ik with
          | .val => mE T it S (.Tuple [iter] 0 iter.pos)
          | .range => (match iter with
            | .Call (.Name z _) [w] [] p => decide (z = "range") && glB S "range" && mE T it S (.Tuple [w] 0 p)
            | _ => false)
          | .zip => (match iter, tgE with
            | .Call (.Name z _) [w, v] [] p, .Tuple _ _ _ => decide (z = "zip") && glB S "zip" && mE T it S (.Tuple [w, v] 0 p)
            | _, _ => false)
          | _ => false) = true) (nv : ik = .val → one1 it = true) : PI X tgE iter (tI Z W ik (ev T call it)) := by
  cases ik with
  | val =>
    obtain ⟨a, rfl⟩ := one1_eq (nv rfl)
    obtain ⟨sa, na⟩ := h1.el a _ rfl
    simp only [mE, Bool.and_eq_true] at h
    exact s_iVal C (sa.pe S X W _ C O na h.1.2)
  | range =>
    dsimp only at h
    split at h
    · simp only [Bool.and_eq_true, decide_eq_true_eq] at h
      obtain ⟨⟨rfl, g2⟩, g3⟩ := h
      have ns := noAst_ns n1 g3
      simp only [noStars, List.all_cons, List.all_nil, Bool.and_true] at ns
      exact s_iRange C (glB_ok O g2) (L.B.free _ (by decide +kernel)) ns (h1.sn.pa S X W _ 0 _ C O (noAst_arg n1) g3)
    · cases h
  | zip =>
    dsimp only at h
    split at h
    · simp only [Bool.and_eq_true, decide_eq_true_eq] at h
      obtain ⟨⟨rfl, g2⟩, g3⟩ := h
      exact s_iZip C (glB_ok O g2) (L.B.free _ (by decide +kernel)) (noAst_ns n1 g3) (h1.sn.pa S X W _ 0 _ C O (noAst_arg n1) g3)
    · cases h
  | _ => cases h
theorem ifs_pts {cond : SE} {S : Sx} {X : Cx} {ifs : List Expr} (h : (match ifs with | [] => isCstT cond | [c] => !isCstT cond && mE T cond S c | _ => false) = true) (C : Cok Z (k + 1) X WF) (O : XOk X S) (h1 : isCstT cond = false → Snd Z T call k cond) (t1 : isCstT cond = false → tstD cond = true) : PTs X ifs (tT Z WF (ev T call cond)) := by
  split at h
  · have e : cond = .cst (.bl true) := by
      cases cond with
      | cst v =>
        cases v with
        | bl b => cases b <;> first | rfl | cases h
        | _ => cases h
      | _ => cases h
    subst e
    exact pts_none
  · simp only [Bool.and_eq_true, Bool.not_eq_true'] at h
    exact pts_one ((h1 h.1).pt S X WF _ C O (t1 h.1) h.2)
  · cases h
theorem all_in {tg : Tg} {own : List Nat} {S : Sx} (h : (tgL tg).all own.contains = true) : ∀ i ∈ tgL tg, i ∈ (ownP S own).map (·.2) := by
  rw [ownP_snd]
  intro i hi
  have := List.all_eq_true.mp h i hi
  simpa using this
theorem sn_lc {elt : SE} {tg : Tg} {own : List Nat} {ik : ItK} {it cond : SE} (L : Rls Z T call k) (h1 : Snd Z T call k elt) (n1 : isArg elt = false) (h2 : Pd Z T call k it) (n2 : noAst it = true) (nv : ik = .val → one1 it = true) (h3 : isCstT cond = false → Snd Z T call k cond) (t3 : isCstT cond = false → tstD cond = true) : Snd Z T call k (.lc elt tg own ik it cond) := by
  refine .val rfl (fun S X W e C O h => ?_) fun S e h => sh_no h (fun _ _ _ => rfl) (fun _ _ _ => rfl) (fun _ _ _ _ => rfl) (fun _ _ _ _ => rfl)
  simp only [mE] at h
  split at h
  · rename_i x tgE iter ifs scope pos
    simp only [Bool.and_eq_true, Bool.not_eq_true'] at h
    obtain ⟨⟨⟨⟨⟨⟨g1, g2⟩, g3⟩, g4⟩, g5⟩, g6⟩, g7⟩ := h
    have key := s_lc (Z := Z) (W := W) (pos := pos) C (it_pi L C O h2 n2 g7 nv) (blkB_ok O g1) (all_in g2) (fun s H Cc cl fp => tgB_ok (C.blk s H scope _ fp) (O.blk s H scope Cc cl fp) g3) (fun s H Cc cl fp => ifs_pts g6 (C.blk s H scope _ fp) (O.blk s H scope Cc cl fp) h3 t3) (fun s H Cc cl fp => h1.pe _ _ _ _ (C.blk s H scope _ fp) (O.blk s H scope Cc cl fp) n1 g5) (fold_ok g4)
    rw [ownP_snd] at key
    exact key
  · cases h
theorem sn_dc {key val : SE} {tg : Tg} {own : List Nat} {ik : ItK} {it cond : SE} {t : Bool} (L : Rls Z T call k) (h1 : Snd Z T call k key) (n1 : isArg key = false) (h1' : Snd Z T call k val) (n1' : isArg val = false) (h2 : Pd Z T call k it) (nv : one1 it = true) (h3 : isCstT cond = false → Snd Z T call k cond) (t3 : isCstT cond = false → tstD cond = true) : Snd Z T call k (.dc t key val tg own ik it cond) := by
  refine .val rfl (fun S X W e C O h => ?_) fun S e h => sh_no h (fun _ _ _ => rfl) (fun _ _ _ => rfl) (fun _ _ _ _ => rfl) (fun _ _ _ _ => rfl)
  simp only [mE] at h
  split at h
  · rename_i x y tgE iter ifs scope pos
    simp only [Bool.and_eq_true, Bool.not_eq_true', decide_eq_true_eq] at h
    obtain ⟨⟨⟨⟨⟨⟨⟨⟨⟨rfl, g1⟩, g2⟩, g3⟩, g4⟩, g5⟩, g5'⟩, g6⟩, rfl⟩, g7⟩ := h
    have n2 : noAst it = true := by obtain ⟨a, rfl⟩ := one1_eq nv; rfl
    have kk := s_dc (Z := Z) (W := W) (pos := pos) C (it_pi (ik := .val) (tgE := tgE) L C O h2 n2 g7 fun _ => nv) (blkB_ok O g1) (all_in g2) (fun s H Cc cl fp => tgB_ok (C.blk s H scope _ fp) (O.blk s H scope Cc cl fp) g3) (fun s H Cc cl fp => ifs_pts g6 (C.blk s H scope _ fp) (O.blk s H scope Cc cl fp) h3 t3) (fun s H Cc cl fp => h1.pe _ _ _ _ (C.blk s H scope _ fp) (O.blk s H scope Cc cl fp) n1 g5) (fun s H Cc cl fp => h1'.pe _ _ _ _ (C.blk s H scope _ fp) (O.blk s H scope Cc cl fp) n1' g5') (fold_ok g4)
    rw [ownP_snd] at kk
    exact kk
  · cases h
end
end Zk
-- Zk30
set_option maxHeartbeats 4000000
namespace Zk
open PySem PySem.Spec L2
section
variable {Z : Wd} {T : Tabs} {call : Calls} {k : Nat}
theorem sound (L : Rls Z T call k) (d : SE) : wfE d = true → Pd Z T call k d := by
  induction d with
  | anil => exact fun _ => ⟨sn_anil, (fun _ S X W kws n p C O h => by
      cases kws with
      | nil => exact s_knil
      | cons x xs => cases h), (fun a r e => by cases e)⟩
  | acons d r h1 h2 =>
    intro w
    simp only [wfE, Bool.and_eq_true, Bool.not_eq_true'] at w
    obtain ⟨⟨⟨w1, w2⟩, w3⟩, w4⟩ := w
    refine ⟨sn_acons (h1 w3).sn (h2 w4).sn w1 w2, fun hn S X W kws n p C O h => ?_, fun a r e => by cases e; exact ⟨(h1 w3).sn, w1⟩⟩
    cases kws with
    | nil => cases h
    | cons x xs =>
      obtain ⟨nm, v, q⟩ := x
      simp only [List.map_cons, mE, Bool.and_eq_true] at h
      exact s_kcons ((h1 w3).sn.pe S X W v C O w1 h.1.2) ((h2 w4).pk hn S X W xs n p C O h.2)
  | astar d r h1 h2 =>
    intro w
    simp only [wfE, Bool.and_eq_true, Bool.not_eq_true'] at w
    obtain ⟨⟨⟨w1, w2⟩, w3⟩, w4⟩ := w
    exact ⟨sn_astar (h1 w3).sn (h2 w4).sn w1 w2, (fun z => by cases z), (fun a r e => by cases e)⟩
  | var i => exact fun _ => .of sn_var rfl
  | cst v => exact fun _ => .of sn_cst rfl
  | glb x => exact fun _ => .of (sn_glb L) rfl
  | tup r h1 =>
    intro w
    simp only [wfE, Bool.and_eq_true] at w
    exact .of (sn_tup (h1 w.2).sn w.1) rfl
  | lst m r h1 =>
    intro w
    simp only [wfE, Bool.and_eq_true] at w
    exact .of (sn_lst (h1 w.2).sn w.1) rfl
  | dct m t ks vs h1 h2 =>
    intro w
    simp only [wfE, Bool.and_eq_true, Bool.or_eq_true] at w
    rcases w with ⟨w1, w2⟩ | ⟨⟨⟨⟨w1, w2⟩, w3⟩, w4⟩, w5⟩
    · have e1 := isAnil_eq w1
      have e2 := isAnil_eq w2
      subst e1 e2
      exact .of sn_dct0 rfl
    · subst w1
      obtain ⟨a, rfl⟩ := one1_eq w2
      obtain ⟨b, rfl⟩ := one1_eq w3
      obtain ⟨s1, n1⟩ := (h1 w4).el a _ rfl
      obtain ⟨s2, n2⟩ := (h2 w5).el b _ rfl
      exact .of (sn_dct1 s1 s2 n1 n2) rfl
  | bop o a b h1 h2 =>
    intro w
    simp only [wfE, Bool.and_eq_true, Bool.not_eq_true'] at w
    obtain ⟨⟨⟨w1, w2⟩, w3⟩, w4⟩ := w
    exact .of (sn_bop (h1 w3).sn (h2 w4).sn w1 w2) rfl
  | neg a h1 =>
    intro w
    simp only [wfE, Bool.and_eq_true, Bool.not_eq_true'] at w
    exact .of (sn_neg (h1 w.2).sn w.1) rfl
  | cmp o a b h1 h2 =>
    intro w
    simp only [wfE, Bool.and_eq_true, Bool.not_eq_true'] at w
    obtain ⟨⟨⟨w1, w2⟩, w3⟩, w4⟩ := w
    exact .of (sn_cmp (h1 w3).sn (h2 w4).sn w1 w2) rfl
  | chain o o' a b c h1 h2 h3 =>
    intro w
    simp only [wfE, Bool.and_eq_true, Bool.not_eq_true'] at w
    obtain ⟨⟨⟨⟨⟨w1, w2⟩, w3⟩, w4⟩, w5⟩, w6⟩ := w
    exact .of (sn_chain (h1 w4).sn (h2 w5).sn (h3 w6).sn w1 w2 w3) rfl
  | isN a h1 =>
    intro w
    simp only [wfE, Bool.and_eq_true, Bool.not_eq_true'] at w
    exact .of (sn_isN (h1 w.2).sn w.1) rfl
  | notT a h1 =>
    intro w
    simp only [wfE, Bool.and_eq_true, Bool.not_eq_true'] at w
    exact .of (sn_notT (h1 w.2).sn w.1) rfl
  | dne a b h1 h2 =>
    intro w
    simp only [wfE, Bool.and_eq_true, Bool.not_eq_true'] at w
    obtain ⟨⟨⟨w1, w2⟩, w3⟩, w4⟩ := w
    exact .of (sn_dne (h1 w3).sn (h2 w4).sn w1 w2) rfl
  | lenO a h1 =>
    intro w
    simp only [wfE, Bool.and_eq_true, Bool.not_eq_true'] at w
    exact .of (sn_lenO L (h1 w.2).sn w.1) rfl
  | notN a h1 =>
    intro w
    simp only [wfE, Bool.and_eq_true, Bool.not_eq_true'] at w
    exact .of (sn_notN (h1 w.2).sn w.1) rfl
  | andE a b h1 h2 =>
    intro w
    simp only [wfE, Bool.and_eq_true, Bool.not_eq_true'] at w
    obtain ⟨⟨⟨⟨⟨w1, w2⟩, w3⟩, w4⟩, w5⟩, w6⟩ := w
    exact .of (sn_and (h1 w5).sn (h2 w6).sn w1 w2 w3 w4) rfl
  | orE a b h1 h2 =>
    intro w
    simp only [wfE, Bool.and_eq_true, Bool.not_eq_true'] at w
    obtain ⟨⟨⟨⟨⟨w1, w2⟩, w3⟩, w4⟩, w5⟩, w6⟩ := w
    exact .of (sn_or (h1 w5).sn (h2 w6).sn w1 w2 w3 w4) rfl
  | notE a h1 =>
    intro w
    simp only [wfE, Bool.and_eq_true, Bool.not_eq_true'] at w
    exact .of (sn_not (h1 w.2).sn w.1.1 w.1.2) rfl
  | ife c a b h1 h2 h3 =>
    intro w
    simp only [wfE, Bool.and_eq_true, Bool.not_eq_true'] at w
    obtain ⟨⟨⟨⟨⟨w1, w2⟩, w3⟩, w4⟩, w5⟩, w6⟩ := w
    exact .of (sn_ife (h1 w4).sn (h2 w5).sn (h3 w6).sn w1 w2 w3) rfl
  | attr d f h1 =>
    intro w
    simp only [wfE, Bool.and_eq_true, Bool.not_eq_true'] at w
    exact .of (sn_attr L (h1 w.2).sn w.1) rfl
  | sub a b h1 h2 =>
    intro w
    simp only [wfE, Bool.and_eq_true, Bool.not_eq_true'] at w
    obtain ⟨⟨⟨w1, w2⟩, w3⟩, w4⟩ := w
    exact .of (sn_sub (h1 w3).sn (h2 w4).sn w1 w2) rfl
  | slc a lo hi h1 h2 h3 =>
    intro w
    simp only [wfE, Bool.and_eq_true, Bool.not_eq_true', Bool.or_eq_true] at w
    obtain ⟨⟨⟨w1, w2⟩, w3⟩, w4⟩ := w
    have pick : ∀ {q : SE}, (isAnil q = true ∨ (isArg q = false ∧ wfE q = true)) → isAnil q = false → isArg q = false ∧ wfE q = true := fun h z => by
      rcases h with h | h
      · rw [z] at h; cases h
      · exact h
    exact .of (sn_slc (h1 w2).sn (fun z => (h2 (pick w3 z).2).sn) (fun z => (h3 (pick w4 z).2).sn) w1 (fun z => (pick w3 z).1) fun z => (pick w4 z).1) rfl
  | rev a h1 =>
    intro w
    simp only [wfE, Bool.and_eq_true, Bool.not_eq_true'] at w
    exact .of (sn_rev (h1 w.2).sn w.1) rfl
  | call f iso r h1 =>
    intro w
    simp only [wfE, Bool.and_eq_true] at w
    exact .of (sn_call L (h1 w.2).sn w.1) rfl
  | make c fz r h1 =>
    intro w
    simp only [wfE, Bool.and_eq_true] at w
    exact .of (sn_make L (h1 w.2).sn w.1) rfl
  | mkK c fz r kr ks h1 h2 =>
    intro w
    simp only [wfE, Bool.and_eq_true] at w
    obtain ⟨⟨⟨w1, w2⟩, w3⟩, w4⟩ := w
    exact .of (sn_mkK L (h1 w3) (h2 w4) w1 w2) rfl
  | meth d m iso r h1 h2 =>
    intro w
    simp only [wfE, Bool.and_eq_true, Bool.not_eq_true'] at w
    obtain ⟨⟨⟨w1, w2⟩, w3⟩, w4⟩ := w
    exact .of (sn_meth L (h1 w3).sn (h2 w4).sn w1 w2) rfl
  | blt b r h1 =>
    intro w
    simp only [wfE, Bool.and_eq_true] at w
    obtain ⟨a, rfl⟩ := one1_eq w.1
    obtain ⟨s1, n1⟩ := (h1 w.2).el a _ rfl
    exact .of (sn_blt L s1 n1) rfl
  | bm d b r h1 h2 =>
    intro w
    simp only [wfE, Bool.and_eq_true, Bool.not_eq_true'] at w
    obtain ⟨⟨⟨w1, w2⟩, w3⟩, w4⟩ := w
    obtain ⟨a, rfl⟩ := one1_eq w2
    obtain ⟨s1, n1⟩ := (h2 w4).el a _ rfl
    exact .of (sn_bm L (h1 w3).sn s1 w1 n1) rfl
  | isi d ts h1 =>
    intro w
    simp only [wfE, Bool.and_eq_true, Bool.not_eq_true'] at w
    exact .of (sn_isi L (h1 w.2).sn w.1) rfl
  | lc elt tg own ik it cond h1 h2 h3 =>
    intro w
    simp only [wfE, Bool.and_eq_true, Bool.not_eq_true', Bool.or_eq_true, decide_eq_false_iff_not] at w
    obtain ⟨⟨⟨⟨⟨w1, w2⟩, w3⟩, w4⟩, w5⟩, w6⟩ := w
    refine .of (sn_lc L (h1 w2).sn w1 (h2 w6) w4 (fun e => w5.resolve_left fun z => z e) (fun z => ?_) fun z => ?_) rfl
    · rcases w3 with w3 | w3
      · rw [z] at w3; cases w3
      · exact (h3 w3.2).sn
    · rcases w3 with w3 | w3
      · rw [z] at w3; cases w3
      · exact w3.1
  | dc t key val tg own ik it cond h1 h1' h2 h3 =>
    intro w
    simp only [wfE, Bool.and_eq_true, Bool.not_eq_true', Bool.or_eq_true] at w
    obtain ⟨⟨⟨⟨⟨⟨w1, w2⟩, w1'⟩, w2'⟩, w3⟩, w5⟩, w6⟩ := w
    refine .of (sn_dc L (h1 w2).sn w1 (h1' w2').sn w1' (h2 w6) w5 (fun z => ?_) fun z => ?_) rfl
    · rcases w3 with w3 | w3
      · rw [z] at w3; cases w3
      · exact (h3 w3.2).sn
    · rcases w3 with w3 | w3
      · rw [z] at w3; cases w3
      · exact w3.1
  | frz d h1 =>
    intro w
    simp only [wfE] at w
    cases d with
    | var i => exact .of (sn_frz sn_var rfl fun _ _ _ _ => rfl) rfl
    | _ => cases w
end
end Zk
-- Zk31
set_option maxHeartbeats 4000000
namespace Zk
open PySem PySem.Spec L2

/-- an expression that is fit to be a value; a test -/
def mV (T : Tabs) (d : SE) (S : Sx) (e : Expr) : Bool := !isArg d && wfE d && mE T d S e
def mT (T : Tabs) (d : SE) (S : Sx) (e : Expr) : Bool := tstD d && wfE d && mE T d S e
def mA (T : Tabs) (d : SE) (S : Sx) (es : List Expr) (p : Pos) : Bool := isArg d && wfE d && mE T d S (.Tuple es 0 p)
/-- what a for walks -/
def mI (T : Tabs) (k : ItK) (it : SE) (S : Sx) (tgE iter : Expr) : Bool := noAst it && wfE it && (!decide (k = .val) || one1 it) && (match k with
  | .val => mE T it S (.Tuple [iter] 0 iter.pos)
  | .range => (match iter with
    | .Call (.Name z _) [w] [] p => decide (z = "range") && glB S "range" && mE T it S (.Tuple [w] 0 p)
    | _ => false)
  | .zip => (match iter, tgE with
    | .Call (.Name z _) [w, v] [] p, .Tuple _ _ _ => decide (z = "zip") && glB S "zip" && mE T it S (.Tuple [w, v] 0 p)
    | _, _ => false)
  | _ => false)
def locB (S : Sx) (x : Str) : Bool := decide (lk S x = some .local)
/-- a comprehension set to a name: its form -/
def swB (S : Sx) (x : Str) (px : Pos) : SE → Expr → Bool
  | d, .ListComp _ [⟨_, _, _, 0⟩] scope p => decide (lk S x = some .cell) || (decide (S.sc.kind = .function) && locB S x && (px.line == p.line) && !(scope.names.any fun (m, kk) => m == x && (kk == .local || kk == .cell)) && (match d with | .lc .. => true | _ => false))
  | _, .DictComp .. => decide (lk S x = some .cell)
  | _, e => noComp e
def atsB (x : Str) : List Str → List Expr → Bool
  | [], [] => true
  | f :: fs, .Attribute (.Name y _) g _ :: es => decide (x = y) && decide (f = g) && atsB x fs es
  | _, _ => false
/-- several names set at once -/
def parB (S : Sx) (is : List Nat) (ts vs : List Expr) : Bool :=
  setsB S is ts && (match is, ts, vs with
    | [i, j], [.Name x px, .Name y py], [a, c] => (!locB S x || !locB S y) || (decide (S.sc.kind = .function) && locB S x && locB S y && !decide (x = y) && !decide (i = j) && decide (py.line = px.line) && !isSt a && !isSt c && !([a, c].all (foldedForSure 8)) && !([a, c].all (constantsAlone 8)))
    | [i, j, l], [.Name x px, .Name y py, .Name z pz], [a, c, d] => decide (S.sc.kind = .function) && locB S x && locB S y && locB S z && !decide (x = y) && !decide (x = z) && !decide (y = z) && !decide (i = j) && !decide (i = l) && !decide (j = l) && decide (py.line = px.line) && decide (pz.line = px.line) && !isSt a && !isSt c && !isSt d && !([a, c, d].all (foldedForSure 8)) && !([a, c, d].all (constantsAlone 8))
    | _, ts, _ => !(ts.length == 2 || ts.length == 3) && decide (is.length ≤ mostLen))
def isBlk : SS → Bool
  | .nil => true
  | .cons _ _ => true
  | .frzV _ _ => true
  | _ => false
/-- does the small syntax say what the statements say -/
def mS (T : Tabs) : SS → Sx → List Stmt → Bool
  | .nil, S, es => es.isEmpty
  | .cons s r, S, es => (match es with | e :: es => !isBlk s && isBlk r && mS T s S [e] && mS T r S es | _ => false)
  | .expr d, S, es => (match es with | [.Expr e _] => noComp e && mV T d S e | _ => false)
  | .set i d, S, es => (match es with | [.Assign [.Name x px] e _] => setB S i (.Name x px) && swB S x px d e && mV T d S e | _ => false)
  | .asg is d, S, es => (match es with | [.Assign [.Tuple ts _ _] e _] => setsB S is ts && notTup e && mV T d S e | _ => false)
  | .par is r, S, es => (match es with | [.Assign [.Tuple ts _ _] (.Tuple vs _ p) _] => parB S is ts vs && mA T r S vs p | _ => false)
  | .setA o f d, S, es => (match es with | [.Assign [.Attribute x g _] e _] => decide (f = g) && mV T o S x && mV T d S e | _ => false)
  | .asgA n fs d, S, es => (match es with | [.Assign [.Tuple ts _ _] e _] => (match S.N[n]? with | some x => visB S x && okN x && atsB x fs ts && notTup e && mV T d S e | none => false) | _ => false)
  | .setI o i d, S, es => (match es with | [.Assign [.Subscript x y _] e _] => notSlc y && mV T o S x && mV T i S y && mV T d S e | _ => false)
  | .aug _ _, _, _ => false
  | .ret d, S, es => (match es with | [.Return (some e) _] => mV T d S e | _ => false)
  | .retN, S, es => (match es with | [.Return none _] => true | _ => false)
  | .ife c a b, S, es => (match es with | [.If e x y _] => isBlk a && isBlk b && mT T c S e && mS T a S x && mS T b S y | _ => false)
  | .forr tg k it b, S, es => (match es with | [.For tgE iter x [] _] => isBlk b && tgB S tg tgE && !setDisp iter && mI T k it S tgE iter && mS T b S x | _ => false)
  | .whil c b, S, es => (match es with | [.While e x [] _] => isBlk b && mT T c S e && mS T b S x | _ => false)
  | .pass, S, es => (match es with | [.Pass _] => true | _ => false)
  | .cont, S, es => (match es with | [.Continue _] => true | _ => false)
  | .never, S, es => (match es with | [_] => true | _ => false)
  | .frzV _ r, S, es => isBlk r && mS T r S es

section
variable {Z : Wd} {T : Tabs} {call : Calls} {k fuel : Nat} {S : Sx} {X : Cx} {W : WX}
theorem mV_ok (L : Rls Z T call k) (C : Cok Z (k + 1) X W) (O : XOk X S) {d : SE} {e : Expr} (h : mV T d S e = true) : PE X e (tE Z W (ev T call d)) := by
  simp only [mV, Bool.and_eq_true, Bool.not_eq_true'] at h
  exact (sound L d h.1.2).sn.pe S X W e C O h.1.1 h.2
theorem mT_ok (L : Rls Z T call k) (C : Cok Z (k + 1) X W) (O : XOk X S) {d : SE} {e : Expr} (h : mT T d S e = true) : PT X e (tT Z W (ev T call d)) := by
  simp only [mT, Bool.and_eq_true] at h
  exact (sound L d h.1.2).sn.pt S X W e C O h.1.1 h.2
theorem mA_ok (L : Rls Z T call k) (C : Cok Z (k + 1) X W) (O : XOk X S) {d : SE} {es : List Expr} {p : Pos} (h : mA T d S es p = true) : PA X es (tA Z W (ev T call d)) := by
  simp only [mA, Bool.and_eq_true] at h
  exact (sound L d h.1.2).sn.pa S X W es 0 p C O h.1.1 h.2
theorem mI_ok (L : Rls Z T call k) (C : Cok Z (k + 1) X W) (O : XOk X S) {ik : ItK} {it : SE} {tgE iter : Expr} (h : mI T ik it S tgE iter = true) : PI X tgE iter (tI Z W ik (ev T call it)) := by
  unfold mI at h
  rw [Bool.and_eq_true, Bool.and_eq_true, Bool.and_eq_true] at h
  obtain ⟨⟨⟨h1, h2⟩, h3⟩, h4⟩ := h
  refine it_pi L C O (sound L it h2) h1 h4 fun e => ?_
  simp only [Bool.or_eq_true, Bool.not_eq_true', decide_eq_false_iff_not] at h3
  exact h3.resolve_left fun z => z e
theorem locB_ok (O : XOk X S) {x : Str} (h : locB S x = true) : X.env.scope.names.lookup x = some .local := by
  rw [lk_X O]; simpa [locB] using h
theorem kind_ok (O : XOk X S) (h : S.sc.kind = .function) : X.env.scope.kind = .function := by rw [O.sc]; exact h
theorem atsB_ok {n : Nat} {x : Str} : ∀ {fs : List Str} {es : List Expr}, atsB x fs es = true → AtsOk n x es fs
  | [], [], _ => .nil
  | [], _ :: _, h => by simp [atsB] at h
  | f :: fs, [], h => by simp [atsB] at h
  | f :: fs, e :: es, h => by
    unfold atsB at h
    split at h
    · rename_i a b c d
      cases d
    · rename_i e1 e2
      simp only [Bool.and_eq_true, decide_eq_true_eq] at h
      cases e1; cases e2
      obtain ⟨⟨h1, h2⟩, h3⟩ := h
      subst h1 h2
      exact .cons (atsB_ok h3)
    · cases h
theorem set_ok (L : Rls Z T call k) (C : Cok Z (k + 1) X W) (O : XOk X S) {i : Nat} {d : SE} {x : Str} {px pos : Pos} {e : Expr} (h1 : setB S i (.Name x px) = true) (h2 : swB S x px d e = true) (h3 : mV T d S e = true) : PS X (.Assign [.Name x px] e pos) (tS Z W fun ρ M => (ev T call d ρ M).toS ρ fun v M1 => .nx (setS ρ i v) M1) := by
  have hn := setB_ok O h1
  have gen : (∀ l : Nat, swapsWith e (some (.Name x px)) l X.env = pure false) → PS X (.Assign [.Name x px] e pos) (tS Z W fun ρ M => (ev T call d ρ M).toS ρ fun v M1 => .nx (setS ρ i v) M1) := fun hs => s_set C hn (mV_ok L C O h3) (hs _)
  unfold swB at h2
  split at h2
  · rename_i x' tgE iter ifs scope p
    rw [Bool.or_eq_true] at h2
    rcases h2 with h2 | h2
    · exact gen fun l => sw_cell (by rw [lk_X O]; simpa using h2)
    · rw [Bool.and_eq_true, Bool.and_eq_true, Bool.and_eq_true, Bool.and_eq_true] at h2
      obtain ⟨⟨⟨⟨g1, g2⟩, g3⟩, g4⟩, g5⟩ := h2
      simp only [decide_eq_true_eq] at g1
      simp only [Bool.not_eq_true'] at g4
      cases d with
      | lc elt tg own ik it cond =>
        simp only [mV, Bool.and_eq_true] at h3
        obtain ⟨⟨_, w⟩, h⟩ := h3
        simp only [wfE, Bool.and_eq_true, Bool.not_eq_true', Bool.or_eq_true, decide_eq_false_iff_not] at w
        obtain ⟨⟨⟨⟨⟨w1, w2⟩, w3⟩, w4⟩, w5⟩, w6⟩ := w
        simp only [mE, Bool.and_eq_true, Bool.not_eq_true'] at h
        obtain ⟨⟨⟨⟨⟨⟨q1, q2⟩, q3⟩, q4⟩, q5⟩, q6⟩, q7⟩ := h
        have t1 : isCstT cond = false → Snd Z T call k cond := fun z => by
          rcases w3 with w3 | w3
          · rw [z] at w3; cases w3
          · exact (sound L cond w3.2).sn
        have t2 : isCstT cond = false → tstD cond = true := fun z => by
          rcases w3 with w3 | w3
          · rw [z] at w3; cases w3
          · exact w3.1
        have key := s_setLc (Z := Z) (W := W) (pos := p) (spos := pos) (py := px) C (kind_ok O g1) (by obtain ⟨y, py, ey, hh, _⟩ := hn; cases ey; exact hh) (locB_ok O g2) g3 g4 (it_pi L C O (sound L it w6) w4 q7 (fun e => w5.resolve_left fun z => z e)) (blkB_ok O q1) (all_in q2) (fun s H Cc cl fp => tgB_ok (C.blk s H scope _ fp) (O.blk s H scope Cc cl fp) q3) (fun s H Cc cl fp => ifs_pts q6 (C.blk s H scope _ fp) (O.blk s H scope Cc cl fp) t1 t2) (fun s H Cc cl fp => (sound L elt w2).sn.pe _ _ _ _ (C.blk s H scope _ fp) (O.blk s H scope Cc cl fp) w1 q5) (fold_ok q4)
        rw [ownP_snd] at key
        exact key
      | _ => cases g5
  · exact gen fun l => sw_cellD (by rw [lk_X O]; simpa using h2)
  · exact gen fun l => sw_no h2
theorem par_ok (L : Rls Z T call k) (C : Cok Z (k + 1) X W) (O : XOk X S) {is : List Nat} {ts vs : List Expr} {r : SE} {k1 k2 : Nat} {pt pv p pos : Pos} (h1 : parB S is ts vs = true) (h2 : mA T r S vs p = true) :
    PS X (.Assign [.Tuple ts k1 pt] (.Tuple vs k2 pv) pos) (tS Z W fun ρ M => (ev T call r ρ M).toS ρ fun w M1 => match setMany is (bargs w) ρ with | some ρ1 => .nx ρ1 M1 | none => .bad) := by
  have ha := mA_ok L C O h2
  unfold parB at h1
  rw [Bool.and_eq_true] at h1
  obtain ⟨hn, h1⟩ := h1
  have hns := setsB_ok O hn
  split at h1
  · rename_i i j x px y py a c
    rw [Bool.or_eq_true] at h1
    rcases h1 with h1 | h1
    · simp only [Bool.or_eq_true, Bool.not_eq_true', locB, decide_eq_false_iff_not] at h1
      refine s_parG C hns (by show 2 ≤ mostLen; decide) ha (sws_cell2 ?_)
      rw [lk_X O, lk_X O]
      exact h1
    · simp only [Bool.and_eq_true, Bool.not_eq_true', decide_eq_true_eq, decide_eq_false_iff_not] at h1
      obtain ⟨⟨⟨⟨⟨⟨⟨⟨⟨g1, g2⟩, g3⟩, g4⟩, g5⟩, g6⟩, g7⟩, g8⟩, g9⟩, g10⟩ := h1
      simp only [setsB, setB, Bool.and_eq_true] at hn
      exact s_par2 C (atB_ok O hn.1.1) (atB_ok O hn.2.1.1) g5 (locB_ok O g2) (locB_ok O g3) ha (sws_yes2 (kind_ok O g1) (locB_ok O g2) (locB_ok O g3) g4 g6 g7 g8 g9 g10)
  · simp only [Bool.and_eq_true, Bool.not_eq_true', decide_eq_true_eq, decide_eq_false_iff_not] at h1
    obtain ⟨⟨⟨⟨⟨⟨⟨⟨⟨⟨⟨⟨⟨⟨⟨⟨g1, g2⟩, g3⟩, g4⟩, g5⟩, g6⟩, g7⟩, g8⟩, g9⟩, g10⟩, g11⟩, g12⟩, g13⟩, g14⟩, g15⟩, g16⟩, g17⟩ := h1
    simp only [setsB, setB, Bool.and_eq_true] at hn
    exact s_par3 C (atB_ok O hn.1.1) (atB_ok O hn.2.1.1) (atB_ok O hn.2.2.1.1) g8 g9 g10 (locB_ok O g2) (locB_ok O g3) (locB_ok O g4) ha (sws_yes3 (kind_ok O g1) (locB_ok O g2) (locB_ok O g3) (locB_ok O g4) g5 g6 g7 g11 g12 g13 g14 g15 g16 g17)
  · simp only [Bool.and_eq_true, Bool.not_eq_true', decide_eq_true_eq] at h1
    exact s_parG C hns h1.2 ha (sws_many h1.1)
/-- freezing is no deed of the program -/
theorem frzV_S {r : SS} {i : Nat} {D : Ends} {σ : L2.St} {H : Hp} (h : tS Z W (exec T call fuel (.frzV i r)) D σ H) : tS Z W (exec T call fuel r) D σ H := by
  obtain ⟨b, ads, M, ρ, st, sl, h⟩ := h
  simp only [exec] at h
  cases q : (ρ[i]?).bind id with
  | none => rw [q] at h; exact h.elim
  | some v =>
    rw [q] at h
    dsimp only at h
    have e : ρ[i]? = some (some v) := by
      cases r : ρ[i]? with
      | none => rw [r] at q; cases q
      | some o => rw [r] at q; cases o with
        | none => cases q
        | some y => cases q; rfl
    obtain ⟨x, ex, rx⟩ := sl.at_ i v e
    have fin : ∀ {n : Nat} {w : PV}, v = .loc n → Aft H ads H (ads.set n none) → StoR Z H b (ads.set n none) (M.set n .dead) → Rp Z H b (ads.set n none) w x → EndS Z W D H b ads (exec T call fuel r (setS ρ i w) (M.set n .dead)) → tS Z W (exec T call fuel r) D σ H := by
      intro n w ev f st' r' h'
      refine ⟨b, ads.set n none, M.set n .dead, setS ρ i w, st', ⟨?_, fun j p hj => ?_⟩, EndS.aft f h'⟩
      · rw [setS, List.length_set]; exact sl.len
      · rw [setS, List.getElem?_set] at hj
        split at hj
        · rename_i hij
          subst hij
          split at hj
          · cases hj; exact ⟨x, ex, r'⟩
          · cases hj
        · exact (sl.aft f).at_ j p hj
    cases v with
    | loc n =>
      simp only [frzV] at h
      cases q : (M[n]? : Option MO) with
      | none => rw [q] at h; exact h.elim
      | some mo =>
        rw [q] at h
        cases mo with
        | lst xs =>
          obtain ⟨a, ex, ea, vs, hv, rv⟩ := st.obj rx q (by intro z; cases z)
          refine fin rfl Aft.freeze (st.freeze ea) ?_ h
          simp only [Rp]
          exact ⟨a, vs, ex, fz_freeze st ea, hv, RpL.aft Aft.freeze _ _ rv⟩
        | dct t ks ws =>
          cases t with
          | true =>
            obtain ⟨a, ex, ea, xs, vs, hv, ko, n1, l1, l2, l3⟩ := st.obj rx q (by intro z; cases z)
            refine fin rfl Aft.freeze (st.freeze ea) ?_ h
            simp only [Rp]
            exact ⟨a, xs, vs, ex, fz_freeze st ea, hv, ko, n1, RpL.aft Aft.freeze _ _ l1, RpL.aft Aft.freeze _ _ l2, l3⟩
          | false =>
            obtain ⟨a, ex, ea, kvs, hv, ek, l2⟩ := st.obj rx q (by intro z; cases z)
            refine fin rfl Aft.freeze (st.freeze ea) ?_ h
            simp only [Rp]
            exact ⟨a, kvs, ex, fz_freeze st ea, hv, ek, RpL.aft Aft.freeze _ _ l2⟩
        | ins c ks ws =>
          obtain ⟨a, ex, ea, dx, fs, hv, ek, l2⟩ := st.obj rx q (by intro z; cases z)
          refine fin rfl Aft.freeze (st.freeze ea) ?_ h
          simp only [Rp]
          exact ⟨a, dx, fs, ex, fz_freeze st ea, hv, ek, RpL.aft Aft.freeze _ _ l2⟩
        | dead => exact h.elim
    | _ => exact h.elim
structure SndS (Z : Wd) (T : Tabs) (call : Calls) (k fuel : Nat) (d : SS) : Prop where
  ps : ∀ (S : Sx) (X : Cx) (W : WX) (e : Stmt), Cok Z (k + 1) X W → XOk X S → isBlk d = false → mS T d S [e] = true → PS X e (tS Z W (exec T call fuel d))
  pss : ∀ (S : Sx) (X : Cx) (W : WX) (es : List Stmt), Cok Z (k + 1) X W → XOk X S → isBlk d = true → mS T d S es = true → PSs X es (tS Z W (exec T call fuel d))
theorem SndS.one {d : SS} (n : isBlk d = false) (h : ∀ (S : Sx) (X : Cx) (W : WX) (e : Stmt), Cok Z (k + 1) X W → XOk X S → mS T d S [e] = true → PS X e (tS Z W (exec T call fuel d))) : SndS Z T call k fuel d :=
  ⟨fun S X W e C O _ q => h S X W e C O q, fun S X W es C O z => by rw [n] at z; cases z⟩
theorem soundS (L : Rls Z T call k) (d : SS) : SndS Z T call k fuel d := by
  induction d with
  | nil =>
    refine ⟨(fun S X W e C O z => by cases z), (fun S X W es C O _ h => ?_)⟩
    cases es with
    | nil => exact s_nil
    | cons x xs => cases h
  | cons s r h1 h2 =>
    refine ⟨(fun S X W e C O z => by cases z), (fun S X W es C O _ h => ?_)⟩
    cases es with
    | nil => cases h
    | cons x xs =>
      simp only [mS, Bool.and_eq_true, Bool.not_eq_true'] at h
      exact s_cons (h1.ps S X W x C O h.1.1.1 h.1.2) (h2.pss S X W xs C O h.1.1.2 h.2)
  | expr d =>
    refine .one rfl fun S X W e C O h => ?_
    simp only [mS] at h
    split at h
    · rename_i x p he
      cases he
      simp only [Bool.and_eq_true] at h
      exact s_expr (mV_ok L C O h.2) (sw_no h.1)
    · cases h
  | set i d =>
    refine .one rfl fun S X W e C O h => ?_
    simp only [mS] at h
    split at h
    · rename_i x px y p he
      cases he
      rw [Bool.and_eq_true, Bool.and_eq_true] at h
      exact set_ok L C O h.1.1 h.1.2 h.2
    · cases h
  | asg is d =>
    refine .one rfl fun S X W e C O h => ?_
    simp only [mS] at h
    split at h
    · rename_i he
      cases he
      simp only [Bool.and_eq_true] at h
      exact s_asg C (setsB_ok O h.1.1) h.1.2 (mV_ok L C O h.2)
    · cases h
  | par is r =>
    refine .one rfl fun S X W e C O h => ?_
    simp only [mS] at h
    split at h
    · rename_i he
      cases he
      simp only [Bool.and_eq_true] at h
      exact par_ok L C O h.1 h.2
    · cases h
  | setA o f d =>
    refine .one rfl fun S X W e C O h => ?_
    simp only [mS] at h
    split at h
    · rename_i he
      cases he
      simp only [Bool.and_eq_true, decide_eq_true_eq] at h
      obtain ⟨⟨rfl, h1⟩, h2⟩ := h
      exact s_setA C L.TO.fld (mV_ok L C O h1) (mV_ok L C O h2)
    · cases h
  | asgA n fs d =>
    refine .one rfl fun S X W e C O h => ?_
    simp only [mS] at h
    split at h
    · rename_i he
      cases he
      split at h
      · rename_i x hx
        simp only [Bool.and_eq_true] at h
        obtain ⟨⟨⟨⟨g1, g2⟩, g3⟩, g4⟩, g5⟩ := h
        exact s_asgA C L.TO.fld (by rw [O.N]; exact hx) (visB_ok O g1) (okN_ok g2).1 (okN_ok g2).2 (atsB_ok g3) g4 (mV_ok L C O g5)
      · cases h
    · cases h
  | setI o i d =>
    refine .one rfl fun S X W e C O h => ?_
    simp only [mS] at h
    split at h
    · rename_i he
      cases he
      simp only [Bool.and_eq_true] at h
      obtain ⟨⟨⟨g1, g2⟩, g3⟩, g4⟩ := h
      exact s_setI C g1 (mV_ok L C O g2) (mV_ok L C O g3) (mV_ok L C O g4)
    · cases h
  | aug i d => exact .one rfl fun S X W e C O h => by cases h
  | ret d =>
    refine .one rfl fun S X W e C O h => ?_
    simp only [mS] at h
    split at h
    · rename_i he
      cases he
      exact s_ret (mV_ok L C O h)
    · cases h
  | retN =>
    refine .one rfl fun S X W e C O h => ?_
    simp only [mS] at h
    split at h
    · rename_i he
      cases he
      exact s_retN
    · cases h
  | ife c a b h1 h2 =>
    refine .one rfl fun S X W e C O h => ?_
    simp only [mS] at h
    split at h
    · rename_i he
      cases he
      simp only [Bool.and_eq_true] at h
      obtain ⟨⟨⟨⟨g1, g2⟩, g3⟩, g4⟩, g5⟩ := h
      exact s_if (mT_ok L C O g3) (h1.pss S X W _ C O g1 g4) (h2.pss S X W _ C O g2 g5)
    · cases h
  | forr tg ik it b h1 =>
    refine .one rfl fun S X W e C O h => ?_
    simp only [mS] at h
    split at h
    · rename_i he
      cases he
      simp only [Bool.and_eq_true, Bool.not_eq_true'] at h
      obtain ⟨⟨⟨⟨g1, g2⟩, g3⟩, g4⟩, g5⟩ := h
      exact s_for C (mI_ok L C O g4) (tgB_ok C O g2) (h1.pss S X W _ C O g1 g5) (fold_ok g3)
    · cases h
  | whil c b h1 =>
    refine .one rfl fun S X W e C O h => ?_
    simp only [mS] at h
    split at h
    · rename_i he
      cases he
      simp only [Bool.and_eq_true] at h
      exact s_while C (mT_ok L C O h.1.2) (h1.pss S X W _ C O h.1.1 h.2)
    · cases h
  | pass =>
    refine .one rfl fun S X W e C O h => ?_
    simp only [mS] at h
    split at h
    · rename_i he
      cases he
      exact s_pass
    · cases h
  | cont =>
    refine .one rfl fun S X W e C O h => ?_
    simp only [mS] at h
    split at h
    · rename_i he
      cases he
      exact s_cont
    · cases h
  | never => exact .one rfl fun S X W e C O h => s_never
  | frzV i r h1 =>
    refine ⟨(fun S X W e C O z => by cases z), (fun S X W es C O _ h => ?_)⟩
    simp only [mS, Bool.and_eq_true] at h
    exact impSs (h1.pss S X W es C O h.1 h.2) fun D σ H q => frzV_S q
end
end Zk
-- Zk32
set_option maxHeartbeats 4000000
namespace Zk
open PySem PySem.Spec L2

/-- a def of the program, and our form of it -/
structure DefOk (Z : Wd) (T : Tabs) (f : Nat) (d : FD) : Prop where
  ex : ∃ (x qual : Str) (params : Arguments) (body : List Stmt) (scope : Scope) (dvs : List V) (kws : List (Str × V)) (N : List Str),
    FunD Z.K x qual params body scope dvs kws (Z.fA f) (Z.fd f) ∧ FnScope N (Z.ps f) scope ∧ N.length = d.m ∧ (Z.ps f).length = d.n ∧ isBlk d.body = true ∧ mS T d.body ⟨scope, N, fun _ => true⟩ body = true
section
variable {Z : Wd} {T : Tabs} {call : Calls} {k fuel : Nat} {H : Hp} {b : Ban} {ads : Ads}
theorem slot_start {N : List Str} {args : List PV} {vs : List V} {m : Nat} (hm : N.length = m) (r : RpL Z H b ads args vs) : SlotR Z H b ads (startS m args) (L2.start N vs) := by
  have el := r.length
  refine ⟨?_, fun i p h => ?_⟩
  · unfold startS L2.start
    simp only [List.length_append, List.length_map, List.length_replicate, el, hm]
  · unfold startS at h
    unfold L2.start
    rcases Nat.lt_or_ge i args.length with q | q
    · rw [List.getElem?_append_left (by simpa using q), List.getElem?_map] at h
      cases e : args[i]? with
      | none => rw [e] at h; cases h
      | some a =>
        rw [e] at h
        cases h
        obtain ⟨v, ev, rv⟩ := r.get e
        refine ⟨v, ?_, rv⟩
        rw [List.getElem?_append_left (by simpa [← el] using q), List.getElem?_map, ev]
        rfl
    · rw [List.getElem?_append_right (by simpa using q), List.getElem?_replicate] at h
      split at h
      · cases h
      · cases h
theorem fn_ok {f : Nat} {d : FD} (L : Rls Z T call k) (D : DefOk Z T f d) : FnOk Z.P Z.w Z.K Z.mg Z.base (L2.CX Z.P Z.w) (k + 2) (Z.fA f) (Z.fd f) (Z.ps f) (spF Z (runDef T call fuel d)) := by
  obtain ⟨x, qual, params, body, scope, dvs, kws, N, F, S, hN, hn, hb, hm⟩ := D.ex
  refine F.ok (k := k + 1) S (fun vs H Q E h => ?_) (fun cdv A outer s H vs Q E hr h => ?_)
  · obtain ⟨b, ads, M, args, st, r, h⟩ := h
    rw [← r.length, hn]
    unfold runDef at h
    split at h
    · rename_i q
      simpa using q
    · exact h.elim
  · obtain ⟨b, ads, M, args, st, r, h⟩ := h
    have C : Cok Z (k + 1) (cxOf (L2.CX Z.P Z.w) Z.P Z.w Z.K Z.mg Z.base N qual scope (Z.fA f) cdv A outer s H E) (fun cls d _ H => E cls d H) :=
      ⟨rfl, rfl, rfl, rfl, rfl, rfl, S.nd, takes_of rfl rfl rfl rfl, hr, passes_of rfl⟩
    have O : XOk (cxOf (L2.CX Z.P Z.w) Z.P Z.w Z.K Z.mg Z.base N qual scope (Z.fA f) cdv A outer s H E) ⟨scope, N, fun _ => true⟩ := ⟨rfl, rfl, rfl⟩
    refine ⟨_, (soundS (fuel := fuel) L d.body).pss _ _ _ body C O hb hm, b, ads, M, startS d.m args, st, slot_start hN r, ?_⟩
    unfold runDef at h
    split at h
    · cases q : exec T call fuel d.body (startS d.m args) M with
      | nx ρ M1 => rw [q] at h; exact fun H1 a1 σ1 f1 s1 _ => h H1 a1 .non f1 s1 rp_non
      | rt v M1 => rw [q] at h; exact fun H1 a1 x f1 s1 r1 => h H1 a1 x f1 s1 r1
      | exc y ρ M1 => rw [q] at h; exact fun H1 a1 c dd σ1 f1 s1 r1 _ => h H1 a1 c dd f1 s1 r1
      | bk ρ M1 => rw [q] at h; exact h.elim
      | ct ρ M1 => rw [q] at h; exact h.elim
      | bad => rw [q] at h; exact h.elim
    · exact h.elim
/-- what is known of the program, but for its defs' promises -/
structure Sta (Z : Wd) (T : Tabs) : Prop where
  TO : TabsOk Z T
  B : BltOk Z
  J : IsiOk Z T
  MO : MkOk Z T
  MK : ∀ c x, T.cnm c = some x → T.kwo c ≠ [] → MkK Z T c x
  G : ∀ x p, T.glb x = some p → GlbOk Z x p
theorem fn_bad {f : Nat} {g : List PV → Store → R PV} (h : ∀ vs M, g vs M = .bad) : FnOk Z.P Z.w Z.K Z.mg Z.base (L2.CX Z.P Z.w) k (Z.fA f) (Z.fd f) (Z.ps f) (spF Z g) := by
  have z : ∀ vs H Q E, ¬ spF Z g vs H Q E := fun vs H Q E ⟨b, ads, M, args, st, r, q⟩ => by rw [h] at q; exact q
  exact ⟨fun vs H Q E q => (z vs H Q E q).elim, fun A outer s H args us vs Q E hr he hb hv hs => (z vs H Q E hs).elim⟩
theorem run_ok {P : Prg} (S : Sta Z P.T) (D : ∀ f d, P.df f = some d → DefOk Z P.T f d) : ∀ n : Nat, FnsOk Z P.T (run P n) (2 * n)
  | 0 => ⟨fun f => fn_bad fun _ _ => rfl⟩
  | n + 1 => ⟨fun f => by
    have F := run_ok S D n
    have L : Rls Z P.T (run P n) (2 * n) := ⟨F, S.TO, S.B, S.J, S.MO, S.MK, S.G⟩
    cases q : P.df f with
    | none => exact fn_bad fun vs M => by show (match P.df f with | some d => runDef P.T (run P n) P.fuel d vs M | none => .bad) = _; rw [q]
    | some d =>
      have e : run P (n + 1) f = runDef P.T (run P n) P.fuel d := by
        funext vs M
        show (match P.df f with | some d => runDef P.T (run P n) P.fuel d vs M | none => .bad) = _
        rw [q]
      rw [e]
      exact fn_ok L (D f d q)⟩
end
end Zk
-- Zk33
set_option maxHeartbeats 4000000
namespace Zk
open PySem PySem.Spec PyProof.Rows L2

mutual
theorem pvB_ok {Z : Wd} : ∀ (p : PV) (u : Value), pvB Z.K p u = true → ∃ v, RelV v u ∧ ∀ H b ads, Rp Z H b ads p v
  | .non, u, h => ⟨.non, He.relB_ok (by simpa only [pvB] using h), fun _ _ _ => by simp only [Rp]⟩
  | .bl b, u, h => ⟨.bl b, He.relB_ok (by simpa only [pvB] using h), fun _ _ _ => by simp only [Rp]⟩
  | .int b, u, h => ⟨.int b, He.relB_ok (by simpa only [pvB] using h), fun _ _ _ => by simp only [Rp]⟩
  | .str b, u, h => ⟨.str b, He.relB_ok (by simpa only [pvB] using h), fun _ _ _ => by simp only [Rp]⟩
  | .tup xs, u, h => by
    simp only [pvB] at h
    cases u with
    | ref a =>
      simp only at h
      cases q : Z.K.lookup a with
      | none => rw [q] at h; cases h
      | some o =>
        obtain ⟨oc, od, dt, osl⟩ := o
        rw [q] at h
        cases oc with
        | type c =>
          cases dt with
          | seq its n =>
            obtain ⟨h1, h2⟩ := He.ba h
            obtain ⟨h3, h4⟩ := He.ba h2
            obtain ⟨vs, r1, r2⟩ := pvLB_ok xs its.toList h4
            refine ⟨.ref a, rfl, fun H b ads => ?_⟩
            simp only [Rp]
            exact ⟨a, vs, rfl, .inr ⟨_, its, n, q, congrArg Value.type (of_decide_eq_true h1), rfl, of_decide_eq_true h3, r1⟩, r2 H b ads⟩
          | _ => cases h
        | _ => cases dt <;> cases h
    | _ => cases h
  | .lst xs, u, h => by simp [pvB] at h
  | .rol xs, u, h => by simp [pvB] at h
  | .dct t ks vs, u, h => by simp [pvB] at h
  | .obj c ks vs, u, h => by simp [pvB] at h
  | .loc n, u, h => by simp [pvB] at h
theorem pvLB_ok {Z : Wd} : ∀ (ps : List PV) (us : List Value), pvLB Z.K ps us = true → ∃ vs, Vals vs us ∧ ∀ H b ads, RpL Z H b ads ps vs
  | [], us, h => by
    simp only [pvLB, List.isEmpty_iff] at h
    subst h
    exact ⟨[], .nil, fun _ _ _ => RpL.nil⟩
  | p :: ps, us, h => by
    cases us with
    | nil => simp [pvLB] at h
    | cons u us =>
      simp only [pvLB, Bool.and_eq_true] at h
      obtain ⟨v, r1, r2⟩ := pvB_ok p u h.1
      obtain ⟨vs, r3, r4⟩ := pvLB_ok ps us h.2
      exact ⟨v :: vs, .cons r1 r3, fun H b ads => RpL.cons (r2 H b ads) (r4 H b ads)⟩
end

def fd0 : FuncData := PySem.W.fnOf "" "" { posonlyargs := [], args := [], vararg := none, kwonlyargs := [], kw_defaults := [], kwarg := none, defaults := [] } [] { kind := .function, names := [], isGenerator := false, isCoroutine := false } .none .none .none .none none .none .none
def fdOf (K : PySem.W.Frag) (p : Str × Option Str) : FuncData := match K.lookup (He.fAd K p) with
  | some ⟨_, _, .func fd, _⟩ => fd
  | _ => fd0
def mkW (t : Tbl) (es : List Ent) (P : Program) (w : World) (K : PySem.W.Frag) (mg : Str → Option Value) (base : Heap) : Wd where
  P := P
  w := w
  K := K
  mg := mg
  base := base
  cA := fun c => He.ga K (cnOf t c)
  fA := fun f => He.fAd K (atOf es f)
  fd := fun f => fdOf K (atOf es f)
  ps := psOf es
def scB (N ps : List Str) (sc : Scope) : Bool := decide (sc.kind = .function) && (!sc.isCoroutine && (!sc.isGenerator && (decide N.Nodup && (decide (N.take ps.length = ps) && (ps.all (fun x => decide (sc.names.lookup x = some .local) || decide (sc.names.lookup x = some .cell)) && sc.names.all fun y => !decide (y.2 = .free))))))
theorem scB_ok {N ps : List Str} {sc : Scope} (h : scB N ps sc = true) : FnScope N ps sc := by
  simp only [scB, Bool.and_eq_true, decide_eq_true_eq, Bool.not_eq_true', List.all_eq_true, Bool.or_eq_true, decide_eq_false_iff_not] at h
  obtain ⟨h1, h2, h3, h4, h5, h6, h7⟩ := h
  exact ⟨h1, h2, h3, h4, h5, h6, h7⟩
def entB (T : Tabs) (e : Ent) : Bool := scB e.N e.ps e.D.scope && (decide (e.N.length = e.d.m) && (decide (e.ps.length = e.d.n) && (isBlk e.d.body && mS T e.d.body ⟨e.D.scope, e.N, fun _ => true⟩ e.D.body)))
/-- its parameters are bound by place -/
def PlainB (D : He.DefD) (ps : List Str) : Prop := ∀ (kV doc pm : Value) (an : Option Addr) (cdv ct : Value) (us : List Value), us.length = ps.length → bindArgs (PySem.W.fnOf D.name D.qual D.params D.body D.scope .none kV doc pm an cdv ct) ⟨us, []⟩ = pure (ps.zip us)
theorem lookup_mem {α β : Type} [BEq α] [LawfulBEq α] {a : α} {b : β} : ∀ {l : List (α × β)}, l.lookup a = some b → (a, b) ∈ l
  | [], h => by simp at h
  | (x, y) :: r, h => by
    rw [List.lookup_cons] at h
    cases q : a == x with
    | true => rw [q] at h; simp only [Option.some.injEq] at h; rw [← h, eq_of_beq q]; exact List.mem_cons_self
    | false => rw [q] at h; exact List.mem_cons_of_mem _ (lookup_mem h)
/-- what is seen without a run -/
structure Hd (t : Tbl) (es : List Ent) : Prop where
  df : t.dfL = es.map fun e => (e.f, e.d)
  chk : es.all (entB t.tabs) = true
  fat : t.fnL.all (fun p => decide (atOf es p.1 = (p.2, none)) && (entOf es p.1).isSome && decide (((entOf es p.1).map (·.D.kwd.isEmpty)) = some true)) = true
  mat_ : t.mtL.all (fun p => decide (atOf es p.2 = (cnOf t p.1.1, some p.1.2)) && ((t.clL.lookup p.1.1).isSome && decide (((entOf es p.2).map (·.D.kwd.isEmpty)) = some true))) = true
  cat : t.clL.all (fun p => decide (atOf es (t.tabs.init p.1) = (p.2, some (Str.ofString "__init__"))) && (!(t.tabs.kwo p.1).isEmpty || decide (((entOf es (t.tabs.init p.1)).map (·.D.kwd.isEmpty)) = some true))) = true
  fl : t.flL.all (fun p => (t.clL.lookup p.1).isSome) = true
  nod : es.all (fun e => e.D.dfl.isEmpty) = true
  bnd : ∀ e ∈ es, e.D.kwd.isEmpty = true → PlainB e.D e.ps
section
variable {t : Tbl} {es : List Ent} {P : Program} {w : World} {K : PySem.W.Frag} {mg : Str → Option Value} {base h : Heap}
theorem ent_mem {f : Nat} {e : Ent} (q : entOf es f = some e) : e ∈ es ∧ e.f = f := by
  unfold entOf at q
  exact ⟨List.mem_of_find?_eq_some q, by simpa using List.find?_some q⟩
theorem df_ent : ∀ {es : List Ent} {f : Nat} {d : FD}, (es.map fun e => (e.f, e.d)).lookup f = some d → ∃ e, entOf es f = some e ∧ e.d = d
  | [], f, d, q => by simp at q
  | e :: es, f, d, q => by
    rw [List.map_cons, List.lookup_cons] at q
    unfold entOf
    rw [List.find?_cons]
    cases z : f == e.f with
    | true =>
      rw [z] at q
      have z2 : (e.f == f) = true := by rw [eq_of_beq z]; simp
      rw [z2]
      exact ⟨e, rfl, by simpa using q⟩
    | false =>
      rw [z] at q
      have z2 : (e.f == f) = false := by
        cases y : e.f == f with
        | false => rfl
        | true => rw [eq_of_beq y] at z; simp at z
      rw [z2]
      exact df_ent q
theorem funD_fd {x qual : Str} {params : Arguments} {body : List Stmt} {scope : Scope} {dvs : List V} {kws : List (Str × V)} {p : Str × Option Str} {fd : FuncData} (F : FunD K x qual params body scope dvs kws (He.fAd K p) fd) : fdOf K p = fd := by
  obtain ⟨oc, od, dV, kV, doc, pm, an, cdv, ct, osl, e, lk, _⟩ := F.ex
  unfold fdOf
  rw [lk]
/-- the function object of a def -/
theorem ent_fun (c : He.SaysD t.fa (es.map (·.D)) K) {f : Nat} {e : Ent} (q : entOf es f = some e) : FunD K e.D.name e.D.qual e.D.params e.D.body e.D.scope (e.D.dvs K) (e.D.kws K) ((mkW t es P w K mg base).fA f) ((mkW t es P w K mg base).fd f) := by
  obtain ⟨m, ef⟩ := ent_mem q
  obtain ⟨fd, F⟩ := c.defs (d := e.D) (List.mem_map.mpr ⟨e, m, rfl⟩)
  have ea : atOf es f = e.D.at_ := by unfold atOf; rw [q]
  show FunD K _ _ _ _ _ _ _ (He.fAd K (atOf es f)) (fdOf K (atOf es f))
  rw [ea, funD_fd F]
  exact F
theorem ent_ps {f : Nat} {e : Ent} (q : entOf es f = some e) : (mkW t es P w K mg base).ps f = e.ps := by
  show psOf es f = _
  unfold psOf
  rw [q]
theorem ent_binds (A : Hd t es) (c : He.SaysD t.fa (es.map (·.D)) K) {f : Nat} (hk : ((entOf es f).map (·.D.kwd.isEmpty)) = some true) : Binds K ((mkW t es P w K mg base).fd f) ((mkW t es P w K mg base).ps f) [] := by
  cases q : entOf es f with
  | none => rw [q] at hk; cases hk
  | some e =>
    rw [q] at hk
    have hk2 : e.D.kwd.isEmpty = true := by simpa using hk
    have F := ent_fun (P := P) (w := w) (mg := mg) (base := base) c q
    obtain ⟨m, ef⟩ := ent_mem q
    have hd : e.D.dfl = [] := by simpa using List.all_eq_true.mp A.nod e m
    have hdv : e.D.dvs K = [] := by unfold He.DefD.dvs; rw [hd]; rfl
    rw [hdv] at F
    rw [ent_ps q]
    exact F.bindsN (A.bnd e m hk2)
theorem defOk_of (A : Hd t es) (c : He.SaysD t.fa (es.map (·.D)) K) {fuel : Nat} (f : Nat) (d : FD) (q : (t.prg fuel).df f = some d) : DefOk (mkW t es P w K mg base) t.tabs f d := by
  have q2 : t.dfL.lookup f = some d := q
  rw [A.df] at q2
  obtain ⟨e, he, hd⟩ := df_ent q2
  subst hd
  have F := ent_fun (P := P) (w := w) (mg := mg) (base := base) c he
  have B := List.all_eq_true.mp A.chk e (ent_mem he).1
  simp only [entB, Bool.and_eq_true, decide_eq_true_eq] at B
  obtain ⟨b1, b2, b3, b4, b5⟩ := B
  exact ⟨_, _, _, _, _, _, _, e.N, F, by rw [ent_ps he]; exact scB_ok b1, b2, by rw [ent_ps he]; exact b3, b4, b5⟩
theorem mem_fa {t : Tbl} :
    (∀ {p}, p ∈ t.fnL → He.Fa.glo p.2 ∈ t.fa ∧ He.Fa.keep p.2 ∈ t.fa) ∧ (∀ {p}, p ∈ t.clL → He.Fa.glo p.2 ∈ t.fa ∧ He.Fa.cls p.2 ∈ t.fa ∧ He.Fa.mkr p.2 ∈ t.fa) ∧
    (∀ {p}, p ∈ t.mtL → He.Fa.meth (cnOf t p.1.1) p.1.2 ∈ t.fa) ∧ (∀ {p}, p ∈ t.flL → He.Fa.noat (cnOf t p.1) p.2 ∈ t.fa) ∧ (∀ {x}, x ∈ bltNm → He.Fa.free x ∈ t.fa) := by
  simp only [Tbl.fa, List.mem_append, List.mem_map]
  refine ⟨fun {p} h => ⟨.inl ⟨p, h, rfl⟩, .inr (.inl ⟨p, h, rfl⟩)⟩, fun {p} h => ⟨.inr (.inr (.inl ⟨p, h, rfl⟩)), .inr (.inr (.inr (.inl ⟨p, h, rfl⟩))), .inr (.inr (.inr (.inr (.inl ⟨p, h, rfl⟩))))⟩,
    fun {p} h => .inr (.inr (.inr (.inr (.inr (.inl ⟨p, h, rfl⟩))))), fun {p} h => .inr (.inr (.inr (.inr (.inr (.inr (.inl ⟨p, h, rfl⟩)))))), fun {x} h => .inr (.inr (.inr (.inr (.inr (.inr (.inr ⟨x, h, rfl⟩))))))⟩
theorem cn_of {c : Nat} {x : Str} (q : t.clL.lookup c = some x) : cnOf t c = x := by unfold cnOf; rw [q]; rfl
theorem sta_of (A : Hd t es) (X : K.In h) (G : h.Ns mainGlobals mg) (c : He.SaysD t.fa (es.map (·.D)) K) (ex : t.ex K = true) (MK : ∀ c x, t.tabs.cnm c = some x → t.tabs.kwo c ≠ [] → MkK (mkW t es P w K mg base) t.tabs c x) : Sta (mkW t es P w K mg base) t.tabs := by
  obtain ⟨m1, m2, m3, m4, m5⟩ := mem_fa (t := t)
  simp only [Tbl.ex, Bool.and_eq_true] at ex
  obtain ⟨ex1, ex2⟩ := ex
  simp only [isiB, Bool.and_eq_true, List.all_eq_true, decide_eq_true_eq] at ex1
  obtain ⟨i1, i2, i3⟩ := ex1
  have cl : ∀ {c x}, t.clL.lookup c = some x → Cls K (He.ga K (cnOf t c)) := fun {c' x} q => by
    rw [cn_of q]; exact He.cls_ok (c.facts (m2 (lookup_mem q)).2.1)
  have isi : ∀ {c}, t.tabs.isi c = true → ∃ x, t.clL.lookup c = some x := fun {c} q => Option.isSome_iff_exists.mp q
  refine ⟨⟨fun c' f q => ?_, fun f x q => ?_, fun c' m f q => ?_⟩, ⟨fun x hx => He.free_ok X G (c.facts (m5 hx))⟩, ⟨fun c' q => ?_, ⟨i1, i2⟩, fun n c' hn q => ?_, fun c' k q hk => ?_, fun c' c2 q q2 => ?_, fun c' x q q2 => ?_⟩, ⟨fun c' x q hk => ?_⟩, MK, fun x p q => ?_⟩
  · have hm : (c', f) ∈ t.flL := by simpa [Tbl.tabs] using q
    obtain ⟨x, q1⟩ := Option.isSome_iff_exists.mp (List.all_eq_true.mp A.fl _ hm)
    exact ⟨cl q1, He.noat_ok (c.facts (m4 hm))⟩
  · have hm := lookup_mem (show t.fnL.lookup f = some x from q)
    have z := List.all_eq_true.mp A.fat _ hm
    simp only [Bool.and_eq_true, decide_eq_true_eq] at z
    obtain ⟨⟨z1, z2⟩, z3⟩ := z
    have ef : (mkW t es P w K mg base).fA f = He.ga K x := by show He.fAd K (atOf es f) = _; rw [z1]; rfl
    refine ⟨?_, ?_, ent_binds A c z3⟩
    · rw [ef]; exact He.glo_ok X G (c.facts (m1 hm).1)
    · rw [ef]; exact He.keep_ok (c.facts (m1 hm).2)
  · have hm := lookup_mem (show t.mtL.lookup (c', m) = some f from q)
    have z := List.all_eq_true.mp A.mat_ _ hm
    simp only [Bool.and_eq_true, decide_eq_true_eq] at z
    obtain ⟨z1, z2, z3⟩ := z
    obtain ⟨x, q1⟩ := Option.isSome_iff_exists.mp z2
    refine ⟨cl q1, ?_, ent_binds A c z3⟩
    have ef : (mkW t es P w K mg base).fA f = He.ma K (He.ga K (cnOf t c')) m := by show He.fAd K (atOf es f) = _; rw [z1]; rfl
    rw [ef]
    exact He.meth_ok (c.facts (m3 hm))
  · obtain ⟨x, q1⟩ := isi q
    obtain ⟨j1, _⟩ := i3 _ (lookup_mem q1)
    simp only [isi1B, Bool.and_eq_true, decide_eq_true_eq] at j1
    refine ⟨cl q1, ?_⟩
    show PySem.W.findIn K (.ref (He.ga K (cnOf t c'))) "__class__" = _ ∧ PySem.W.mroIn K (He.ga K (cnOf t c')) (.type "object") = _
    rw [cn_of q1]
    exact j1
  · obtain ⟨x, q1⟩ := isi q
    obtain ⟨_, j2, _⟩ := i3 _ (lookup_mem q1)
    show PySem.W.kitOne K (.type n) (.ref (He.ga K (cnOf t c'))) = _
    rw [cn_of q1]
    exact j2 n hn
  · obtain ⟨x, q1⟩ := isi q
    obtain ⟨_, _, j3, _⟩ := i3 _ (lookup_mem q1)
    show PySem.W.kitOne K (.ref (He.ga K (cnOf t c'))) (.type (tyN k)) = _
    rw [cn_of q1]
    refine j3 _ ?_
    match k, hk with
    | 0, _ => decide
    | 1, _ => decide
    | 2, _ => decide
    | 3, _ => decide
    | 4, _ => decide
    | 5, _ => decide
    | n + 6, hk => omega
  · obtain ⟨x, q1⟩ := isi q
    obtain ⟨x2, q3⟩ := isi q2
    obtain ⟨_, _, _, j4⟩ := i3 _ (lookup_mem q1)
    show PySem.W.kitOne K (.ref (He.ga K (cnOf t c'))) (.ref (He.ga K (cnOf t c2))) = _
    rw [cn_of q1, cn_of q3]
    exact j4 _ (lookup_mem q3)
  · have q3 : t.clL.lookup c' = some x := q2
    show mg x = some (.ref (He.ga K (cnOf t c')))
    rw [cn_of q3]
    exact He.glo_ok X G (c.facts (m2 (lookup_mem q3)).1)
  · have q1 : t.clL.lookup c' = some x := q
    have hm := lookup_mem q1
    have z := List.all_eq_true.mp A.cat _ hm
    simp only [Bool.and_eq_true, decide_eq_true_eq, Bool.or_eq_true, Bool.not_eq_true'] at z
    obtain ⟨z1, z2⟩ := z
    have ef : (mkW t es P w K mg base).fA (t.tabs.init c') = He.ma K (He.ga K x) "__init__" := by show He.fAd K (atOf es _) = _; rw [z1]; rfl
    have ec : (mkW t es P w K mg base).cA c' = He.ga K x := by show He.ga K (cnOf t c') = _; rw [cn_of q1]
    refine ⟨?_, ?_, ent_binds A c (z2.resolve_left fun y => ?_)⟩
    · rw [ec]; exact He.glo_ok X G (c.facts (m2 hm).1)
    · rw [ec, ef]; exact He.mkr_ok (c.facts (m2 hm).2.2)
    · rw [hk] at y; cases y
  · have hm := lookup_mem (show t.glL.lookup x = some p from q)
    have z := List.all_eq_true.mp ex2 _ hm
    cases e : PySem.W.nsIn K mainGlobals x with
    | none => simp only [e] at z; cases z
    | some o =>
      cases o with
      | none => simp only [e] at z; cases z
      | some u =>
        simp only [e] at z
        obtain ⟨v, r1, r2⟩ := pvB_ok (Z := mkW t es P w K mg base) p u z
        exact ⟨u, v, PySem.W.mg_of X G e, r1, r2⟩
end
theorem fnOk_mono {P : Program} {w : World} {K : PySem.W.Frag} {mg : Str → Option Value} {base : Heap} {CX : CXT} {k : Nat} {f : Addr} {fd : FuncData} {ps : List Str} {sp sp' : Sp} (F : FnOk P w K mg base CX k f fd ps sp) (h : ∀ vs H Q E, sp' vs H Q E → sp vs H Q E) : FnOk P w K mg base CX k f fd ps sp' :=
  ⟨fun vs H Q E q => F.len vs H Q E (h _ _ _ _ q), fun A outer s H args us vs Q E hr he hb hv hs => F.run A outer s H args us vs Q E hr he hb hv (h _ _ _ _ hs)⟩
theorem walk_ofW {l : PySem.W.OpenLaw} {n k : Nat} {q : Program} {loose : List Str} {XP : (Str → Option Value) → Heap → Prop} {YP : World → Heap → Prop} {d : DefRec} {CX : World → CXT} {x : Str}
    (hn : l.most = some n) (hn2 : n ≤ sizeLine) (hdf : d.params.defaults = []) (hr : Room k callerA)
    (F : ∀ (w : World) (mg : Str → Option Value) (fa : Addr) (h : Heap), YP w h → h.Ns mainGlobals mg → mg d.name = some (.ref fa) →
      ∃ (K : PySem.W.Frag) (fd : FuncData) (sp : Heap → Sp), K.In h ∧ (∀ (s : Shared) (u : Value), BindsTo s fd ⟨[u], []⟩ [(x, u)]) ∧
        (∀ (base : Heap) (H : Hp) (a : Addr) (ns : List Int), ns.length ≤ n → Only H → SqL K H a (ns.map V.int) → sp base [.ref a] H (fun v _ => v = .bl true) fun _ _ _ => False) ∧
        ∀ base : Heap, K.In base → base.Ns mainGlobals mg → FnOk l.prog w K mg base (CX w) k fa fd [x] (sp base))
    (hCX : ∀ (w : World) (H : Hp) (s : Shared) (e : Value) (s' : Shared), CX w [] H s (fun _ _ _ => False) e s' → False) :
    PySem.W.WalkO q loose XP YP l.row.toRowW d [] (fun f vs => PySem.call f vs) := by
  refine Att.attach_call hn hdf fun w s₀ s₁ mg mb fa o pm cd doc a vs ns G Y ho hd hcd hmg hobj hints hlen hg => ?_
  obtain ⟨K, fd, sp, KX, hb, hsp, hF⟩ := F w mg fa _ Y G.T.g hmg
  exact law_call (sp := fun vs H Q E => ∀ base, sp base vs H Q E) KX G.T.g G.T.b G.T.builtins G.T.nolimit hg hobj hints (Nat.le_trans hlen hn2) hr (fun base b1 b2 => fnOk_mono (hF base b1 b2) fun vs H Q E q => q base) hb (fun H hO hS base => hsp base H a ns hlen hO hS) fun H e s' => hCX w H s₁ e s'
theorem cx_false {P : Program} {w : World} {H : Hp} {s : Shared} {e : Value} {s' : Shared} (h : L2.CX P w [] H s (fun _ _ _ => False) e s') : False := by
  obtain ⟨a, B, H', cls, d, _, _, _, _, _, _, _, hE⟩ := h
  exact hE
theorem rpL_ints {Z : Wd} {H : Hp} {b : Ban} {ads : Ads} : ∀ ns : List Int, RpL Z H b ads (ns.map PV.int) (ns.map V.int)
  | [] => RpL.nil
  | n :: ns => RpL.cons (by simp only [Rp]) (rpL_ints ns)
/-- the law's promise, from the run of our form -/
theorem sp_law {Z : Wd} {g : List PV → Store → R PV} {H : Hp} {a : Addr} {ns : List Int} (hS : SqL Z.K H a (ns.map V.int)) (hg : ∃ M, g [.rol (ns.map PV.int)] [] = .ok (.bl true) M) : spF Z g [.ref a] H (fun v _ => v = .bl true) fun _ _ _ => False := by
  obtain ⟨M, hg⟩ := hg
  refine ⟨fun _ => False, [], [], [.rol (ns.map PV.int)], ⟨rfl, fun n a h => by simp at h, fun n h => by simp at h, fun n m a h => by simp at h, fun a h => h.elim, fun n a h => by simp at h⟩, ?_, ?_⟩
  · refine RpL.cons ?_ RpL.nil
    simp only [Rp]
    refine ⟨a, ns.map V.int, rfl, ?_, rpL_ints ns⟩
    rcases hS with h | h
    · exact .inl ⟨⟨fun z => z, fun z => by simp at z⟩, h⟩
    · exact .inr h
  · rw [hg]
    intro H1 a1 x f1 s1 r1
    simpa only [Rp] using r1
theorem law_end {t : Tbl} {es : List Ent} {l : PySem.W.OpenLaw} {n lv fl fuel : Nat} {q : Program} {loose : List Str} {XP : (Str → Option Value) → Heap → Prop} {d : DefRec} {x : Str} {dep : Nat}
    (hn : l.most = some n) (hn2 : n ≤ sizeLine) (hdf : d.params.defaults = []) (hr : Room (2 * lv) callerA) (A : Hd t es)
    (hfl : t.fnL.lookup fl = some d.name) (hps : psOf es fl = [x])
    (hbA : ∀ e, entOf es fl = some e → PlainB e.D [x])
    (MK : ∀ (P : Program) (w : World) (K : PySem.W.Frag) (mg : Str → Option Value) (base : Heap) (h : Heap), K.In h → h.Ns mainGlobals mg → He.SaysD t.fa (es.map (·.D)) K → ∀ c x, t.tabs.cnm c = some x → t.tabs.kwo c ≠ [] → MkK (mkW t es P w K mg base) t.tabs c x)
    (law : ∀ ns : List Int, ns.length ≤ n → ∃ M, run (t.prg fuel) lv fl [.rol (ns.map PV.int)] [] = .ok (.bl true) M) :
    PySem.W.WalkO q loose XP (He.hookX dep t.fa (es.map (·.D)) [] [] t.ex).says l.row.toRowW d [] (fun f vs => PySem.call f vs) := by
  refine walk_ofW (n := n) (k := 2 * lv) (x := x) (CX := fun w => L2.CX l.prog w) hn hn2 hdf hr ?_ fun w H s e s' => cx_false
  intro w mg fa h Y G hmg
  obtain ⟨K, KX, c⟩ := Y
  have cD : He.SaysD t.fa (es.map (·.D)) K := c.t.d
  have z := List.all_eq_true.mp A.fat _ (lookup_mem hfl)
  simp only [Bool.and_eq_true, decide_eq_true_eq] at z
  obtain ⟨⟨z1, z2⟩, z3⟩ := z
  obtain ⟨e, he⟩ := Option.isSome_iff_exists.mp z2
  have hfa : fa = He.fAd K (atOf es fl) := by
    have y := He.glo_ok KX G (cD.facts ((mem_fa (t := t)).1 (lookup_mem hfl)).1)
    rw [hmg] at y
    rw [z1]
    injection y with y; injection y
  have hd : e.D.dfl = [] := by simpa using List.all_eq_true.mp A.nod e (ent_mem he).1
  have hdv : e.D.dvs K = [] := by unfold He.DefD.dvs; rw [hd]; rfl
  refine ⟨K, fdOf K (atOf es fl), fun base => spF (mkW t es l.prog w K mg base) (run (t.prg fuel) lv fl), KX, ?_, fun base H a ns hl hO hS => sp_law hS (law ns hl), fun base kb gb => ?_⟩
  · have F := ent_fun (P := l.prog) (w := w) (mg := mg) (base := h) cD he
    rw [hdv] at F
    have b := FunD.bindsA (ps := [x]) F (hbA e he)
    exact fun s v => b s [v] rfl
  · have S := sta_of (P := l.prog) (w := w) (base := base) A KX G cD c.more (MK l.prog w K mg base h KX G cD)
    have R := run_ok (Z := mkW t es l.prog w K mg base) (P := t.prg fuel) S (fun f d q => defOk_of A cD f d q) lv
    have F := R.ok fl
    have e1 : (mkW t es l.prog w K mg base).ps fl = [x] := hps
    rw [e1] at F
    rw [hfa]
    exact F
end Zk
-- Zg03
set_option maxHeartbeats 0
namespace Zk.K03
open PySem PySem.Spec PyProof.Rows L2
theorem pb3 : PlainB e3.D ["thing", "low", "high"] := fun _ _ _ _ _ _ us hl => match us, hl with | [_, _, _], _ => rfl
theorem pb4 : PlainB e4.D ["thing", "words"] := fun _ _ _ _ _ _ us hl => match us, hl with | [_, _], _ => rfl
theorem pb5 : PlainB e5.D ["many", "thing"] := fun _ _ _ _ _ _ us hl => match us, hl with | [_, _], _ => rfl
theorem pb6 : PlainB e6.D ["thing"] := fun _ _ _ _ _ _ us hl => match us, hl with | [_], _ => rfl
theorem pb7 : PlainB e7.D ["leans", "thing"] := fun _ _ _ _ _ _ us hl => match us, hl with | [_, _], _ => rfl
theorem pb10 : PlainB e10.D ["self"] := fun _ _ _ _ _ _ us hl => match us, hl with | [_], _ => rfl
theorem pb14 : PlainB e14.D ["plan"] := fun _ _ _ _ _ _ us hl => match us, hl with | [_], _ => rfl
theorem pb15 : PlainB e15.D ["thing"] := fun _ _ _ _ _ _ us hl => match us, hl with | [_], _ => rfl
theorem pb16 : PlainB e16.D ["plan", "rules"] := fun _ _ _ _ _ _ us hl => match us, hl with | [_, _], _ => rfl
theorem pb18 : PlainB e18.D ["self", "plan", "rules", "state"] := fun _ _ _ _ _ _ us hl => match us, hl with | [_, _, _, _], _ => rfl
theorem pb19 : PlainB e19.D ["self"] := fun _ _ _ _ _ _ us hl => match us, hl with | [_], _ => rfl
theorem pb20 : PlainB e20.D ["self", "part"] := fun _ _ _ _ _ _ us hl => match us, hl with | [_, _], _ => rfl
theorem pb21 : PlainB e21.D ["self"] := fun _ _ _ _ _ _ us hl => match us, hl with | [_], _ => rfl
theorem pb22 : PlainB e22.D ["self", "part"] := fun _ _ _ _ _ _ us hl => match us, hl with | [_, _], _ => rfl
theorem pb23 : PlainB e23.D ["self"] := fun _ _ _ _ _ _ us hl => match us, hl with | [_], _ => rfl
theorem pb24 : PlainB e24.D ["self"] := fun _ _ _ _ _ _ us hl => match us, hl with | [_], _ => rfl
theorem pb25 : PlainB e25.D ["self"] := fun _ _ _ _ _ _ us hl => match us, hl with | [_], _ => rfl
theorem pb26 : PlainB e26.D ["self"] := fun _ _ _ _ _ _ us hl => match us, hl with | [_], _ => rfl
theorem pb27 : PlainB e27.D ["self"] := fun _ _ _ _ _ _ us hl => match us, hl with | [_], _ => rfl
theorem pb28 : PlainB e28.D ["self"] := fun _ _ _ _ _ _ us hl => match us, hl with | [_], _ => rfl
theorem pb29 : PlainB e29.D ["self"] := fun _ _ _ _ _ _ us hl => match us, hl with | [_], _ => rfl
theorem pb30 : PlainB e30.D ["self", "step"] := fun _ _ _ _ _ _ us hl => match us, hl with | [_, _], _ => rfl
theorem pb31 : PlainB e31.D ["self", "word"] := fun _ _ _ _ _ _ us hl => match us, hl with | [_, _], _ => rfl
theorem pb32 : PlainB e32.D ["rules"] := fun _ _ _ _ _ _ us hl => match us, hl with | [_], _ => rfl
theorem pb33 : PlainB e33.D ["plan"] := fun _ _ _ _ _ _ us hl => match us, hl with | [_], _ => rfl
theorem pb34 : PlainB e34.D ["plan", "state"] := fun _ _ _ _ _ _ us hl => match us, hl with | [_, _], _ => rfl
theorem pb35 : PlainB e35.D ["state"] := fun _ _ _ _ _ _ us hl => match us, hl with | [_], _ => rfl
theorem pb36 : PlainB e36.D ["plan", "state"] := fun _ _ _ _ _ _ us hl => match us, hl with | [_, _], _ => rfl
theorem pb37 : PlainB e37.D ["plan", "rules", "state", "step"] := fun _ _ _ _ _ _ us hl => match us, hl with | [_, _, _, _], _ => rfl
theorem pb38 : PlainB e38.D ["plan", "rules", "state", "step"] := fun _ _ _ _ _ _ us hl => match us, hl with | [_, _, _, _], _ => rfl
theorem pb39 : PlainB e39.D ["plan", "state", "thing"] := fun _ _ _ _ _ _ us hl => match us, hl with | [_, _, _], _ => rfl
theorem pb109 : PlainB e109.D ["plan", "one", "other"] := fun _ _ _ _ _ _ us hl => match us, hl with | [_, _, _], _ => rfl
theorem pb110 : PlainB e110.D ["plan", "two", "pair", "step"] := fun _ _ _ _ _ _ us hl => match us, hl with | [_, _, _, _], _ => rfl
theorem pb111 : PlainB e111.D ["plan", "pair"] := fun _ _ _ _ _ _ us hl => match us, hl with | [_, _], _ => rfl
theorem pb112 : PlainB e112.D ["self", "pairs"] := fun _ _ _ _ _ _ us hl => match us, hl with | [_, _], _ => rfl
theorem pb114 : PlainB e114.D ["self", "plan", "one", "other"] := fun _ _ _ _ _ _ us hl => match us, hl with | [_, _, _, _], _ => rfl
theorem pb115 : PlainB e115.D ["self", "course"] := fun _ _ _ _ _ _ us hl => match us, hl with | [_, _], _ => rfl
theorem pb117 : PlainB e117.D ["self", "plan", "one", "other"] := fun _ _ _ _ _ _ us hl => match us, hl with | [_, _, _, _], _ => rfl
theorem pb118 : PlainB e118.D ["plan", "one", "other"] := fun _ _ _ _ _ _ us hl => match us, hl with | [_, _, _], _ => rfl
theorem pb119 : PlainB e119.D ["plan", "one", "other"] := fun _ _ _ _ _ _ us hl => match us, hl with | [_, _, _], _ => rfl
theorem pb120 : PlainB e120.D ["plan", "one", "other"] := fun _ _ _ _ _ _ us hl => match us, hl with | [_, _, _], _ => rfl
theorem pb349 : PlainB e349.D ["_law_script", "_law_k"] := fun _ _ _ _ _ _ us hl => match us, hl with | [_, _], _ => rfl
theorem pb350 : PlainB e350.D ["_law_cell", "_law_k", "_law_bound"] := fun _ _ _ _ _ _ us hl => match us, hl with | [_, _, _], _ => rfl
theorem pb351 : PlainB e351.D ["_law_cell", "_law_k", "_law_bound"] := fun _ _ _ _ _ _ us hl => match us, hl with | [_, _, _], _ => rfl
theorem pb352 : PlainB e352.D ["_law_draw_here", "_law_bound"] := fun _ _ _ _ _ _ us hl => match us, hl with | [_, _], _ => rfl
theorem pb353 : PlainB e353.D ["_law_draw_here", "_law_things"] := fun _ _ _ _ _ _ us hl => match us, hl with | [_, _], _ => rfl
theorem pb354 : PlainB e354.D ["_law_draw_here", "_law_upto"] := fun _ _ _ _ _ _ us hl => match us, hl with | [_, _], _ => rfl
theorem pb355 : PlainB e355.D ["_law_model"] := fun _ _ _ _ _ _ us hl => match us, hl with | [_], _ => rfl
theorem pb356 : PlainB e356.D ["_law_draw_here"] := fun _ _ _ _ _ _ us hl => match us, hl with | [_], _ => rfl
theorem pb357 : PlainB e357.D ["_law_model"] := fun _ _ _ _ _ _ us hl => match us, hl with | [_], _ => rfl
theorem pb358 : PlainB e358.D ["_law_model", "_law_state", "_law_lot"] := fun _ _ _ _ _ _ us hl => match us, hl with | [_, _, _], _ => rfl
theorem pb359 : PlainB e359.D ["_law_queue", "_law_part"] := fun _ _ _ _ _ _ us hl => match us, hl with | [_, _], _ => rfl
theorem pb360 : PlainB e360.D ["_law_model", "_law_words_here", "_law_state", "_law_word", "_law_lot"] := fun _ _ _ _ _ _ us hl => match us, hl with | [_, _, _, _, _], _ => rfl
theorem pb361 : PlainB e361.D ["_law_model", "_law_words_here", "_law_state", "_law_step", "_law_lot"] := fun _ _ _ _ _ _ us hl => match us, hl with | [_, _, _, _, _], _ => rfl
theorem pb362 : PlainB e362.D ["_law_rig", "_law_pair", "_law_step"] := fun _ _ _ _ _ _ us hl => match us, hl with | [_, _, _], _ => rfl
theorem pb363 : PlainB e363.D ["_law_rig", "_law_pair"] := fun _ _ _ _ _ _ us hl => match us, hl with | [_, _], _ => rfl
theorem pb364 : PlainB e364.D ["_law_rig"] := fun _ _ _ _ _ _ us hl => match us, hl with | [_], _ => rfl
theorem pb365 : PlainB e365.D ["_law_rig", "_law_pairs_here"] := fun _ _ _ _ _ _ us hl => match us, hl with | [_, _], _ => rfl
theorem pb366 : PlainB e366.D ["_law_rig", "_law_course"] := fun _ _ _ _ _ _ us hl => match us, hl with | [_, _], _ => rfl
theorem pb367 : PlainB e367.D ["_law_draw_here", "_law_words_here"] := fun _ _ _ _ _ _ us hl => match us, hl with | [_, _], _ => rfl
theorem pb368 : PlainB e368.D ["_law_draw_here", "_law_plan_here", "_law_rig"] := fun _ _ _ _ _ _ us hl => match us, hl with | [_, _, _], _ => rfl
theorem pb369 : PlainB e369.D ["_law_script"] := fun _ _ _ _ _ _ us hl => match us, hl with | [_], _ => rfl
theorem bnd : ∀ e ∈ es, e.D.kwd.isEmpty = true → PlainB e.D e.ps := (List.forall_mem_cons.mpr ⟨(fun _ => pb3), (List.forall_mem_cons.mpr ⟨(fun _ => pb4), (List.forall_mem_cons.mpr ⟨(fun _ => pb5), (List.forall_mem_cons.mpr ⟨(fun _ => pb6), (List.forall_mem_cons.mpr ⟨(fun _ => pb7), (List.forall_mem_cons.mpr ⟨(fun h => nomatch h), (List.forall_mem_cons.mpr ⟨(fun _ => pb10), (List.forall_mem_cons.mpr ⟨(fun _ => pb14), (List.forall_mem_cons.mpr ⟨(fun _ => pb15), (List.forall_mem_cons.mpr ⟨(fun _ => pb16), (List.forall_mem_cons.mpr ⟨(fun _ => pb18), (List.forall_mem_cons.mpr ⟨(fun _ => pb19), (List.forall_mem_cons.mpr ⟨(fun _ => pb20), (List.forall_mem_cons.mpr ⟨(fun _ => pb21), (List.forall_mem_cons.mpr ⟨(fun _ => pb22), (List.forall_mem_cons.mpr ⟨(fun _ => pb23), (List.forall_mem_cons.mpr ⟨(fun _ => pb24), (List.forall_mem_cons.mpr ⟨(fun _ => pb25), (List.forall_mem_cons.mpr ⟨(fun _ => pb26), (List.forall_mem_cons.mpr ⟨(fun _ => pb27), (List.forall_mem_cons.mpr ⟨(fun _ => pb28), (List.forall_mem_cons.mpr ⟨(fun _ => pb29), (List.forall_mem_cons.mpr ⟨(fun _ => pb30), (List.forall_mem_cons.mpr ⟨(fun _ => pb31), (List.forall_mem_cons.mpr ⟨(fun _ => pb32), (List.forall_mem_cons.mpr ⟨(fun _ => pb33), (List.forall_mem_cons.mpr ⟨(fun _ => pb34), (List.forall_mem_cons.mpr ⟨(fun _ => pb35), (List.forall_mem_cons.mpr ⟨(fun _ => pb36), (List.forall_mem_cons.mpr ⟨(fun _ => pb37), (List.forall_mem_cons.mpr ⟨(fun _ => pb38), (List.forall_mem_cons.mpr ⟨(fun _ => pb39), (List.forall_mem_cons.mpr ⟨(fun _ => pb109), (List.forall_mem_cons.mpr ⟨(fun _ => pb110), (List.forall_mem_cons.mpr ⟨(fun _ => pb111), (List.forall_mem_cons.mpr ⟨(fun _ => pb112), (List.forall_mem_cons.mpr ⟨(fun _ => pb114), (List.forall_mem_cons.mpr ⟨(fun _ => pb115), (List.forall_mem_cons.mpr ⟨(fun _ => pb117), (List.forall_mem_cons.mpr ⟨(fun _ => pb118), (List.forall_mem_cons.mpr ⟨(fun _ => pb119), (List.forall_mem_cons.mpr ⟨(fun _ => pb120), (List.forall_mem_cons.mpr ⟨(fun _ => pb349), (List.forall_mem_cons.mpr ⟨(fun _ => pb350), (List.forall_mem_cons.mpr ⟨(fun _ => pb351), (List.forall_mem_cons.mpr ⟨(fun _ => pb352), (List.forall_mem_cons.mpr ⟨(fun _ => pb353), (List.forall_mem_cons.mpr ⟨(fun _ => pb354), (List.forall_mem_cons.mpr ⟨(fun _ => pb355), (List.forall_mem_cons.mpr ⟨(fun _ => pb356), (List.forall_mem_cons.mpr ⟨(fun _ => pb357), (List.forall_mem_cons.mpr ⟨(fun _ => pb358), (List.forall_mem_cons.mpr ⟨(fun _ => pb359), (List.forall_mem_cons.mpr ⟨(fun _ => pb360), (List.forall_mem_cons.mpr ⟨(fun _ => pb361), (List.forall_mem_cons.mpr ⟨(fun _ => pb362), (List.forall_mem_cons.mpr ⟨(fun _ => pb363), (List.forall_mem_cons.mpr ⟨(fun _ => pb364), (List.forall_mem_cons.mpr ⟨(fun _ => pb365), (List.forall_mem_cons.mpr ⟨(fun _ => pb366), (List.forall_mem_cons.mpr ⟨(fun _ => pb367), (List.forall_mem_cons.mpr ⟨(fun _ => pb368), (List.forall_mem_cons.mpr ⟨(fun _ => pb369), (fun _ h => nomatch h)⟩)⟩)⟩)⟩)⟩)⟩)⟩)⟩)⟩)⟩)⟩)⟩)⟩)⟩)⟩)⟩)⟩)⟩)⟩)⟩)⟩)⟩)⟩)⟩)⟩)⟩)⟩)⟩)⟩)⟩)⟩)⟩)⟩)⟩)⟩)⟩)⟩)⟩)⟩)⟩)⟩)⟩)⟩)⟩)⟩)⟩)⟩)⟩)⟩)⟩)⟩)⟩)⟩)⟩)⟩)⟩)⟩)⟩)⟩)⟩)⟩)⟩)⟩)
theorem c3 : entB t.tabs e3 = true := by decide +kernel
theorem c4 : entB t.tabs e4 = true := by decide +kernel
theorem c5 : entB t.tabs e5 = true := by decide +kernel
theorem c6 : entB t.tabs e6 = true := by decide +kernel
theorem c7 : entB t.tabs e7 = true := by decide +kernel
theorem c8 : entB t.tabs e8 = true := by decide +kernel
theorem c10 : entB t.tabs e10 = true := by decide +kernel
theorem c14 : entB t.tabs e14 = true := by decide +kernel
theorem c15 : entB t.tabs e15 = true := by decide +kernel
theorem c16 : entB t.tabs e16 = true := by decide +kernel
theorem c18 : entB t.tabs e18 = true := by decide +kernel
theorem c19 : entB t.tabs e19 = true := by decide +kernel
theorem c20 : entB t.tabs e20 = true := by decide +kernel
theorem c21 : entB t.tabs e21 = true := by decide +kernel
theorem c22 : entB t.tabs e22 = true := by decide +kernel
theorem c23 : entB t.tabs e23 = true := by decide +kernel
theorem c24 : entB t.tabs e24 = true := by decide +kernel
theorem c25 : entB t.tabs e25 = true := by decide +kernel
theorem c26 : entB t.tabs e26 = true := by decide +kernel
theorem c27 : entB t.tabs e27 = true := by decide +kernel
theorem c28 : entB t.tabs e28 = true := by decide +kernel
theorem c29 : entB t.tabs e29 = true := by decide +kernel
theorem c30 : entB t.tabs e30 = true := by decide +kernel
theorem c31 : entB t.tabs e31 = true := by decide +kernel
theorem c32 : entB t.tabs e32 = true := by decide +kernel
theorem c33 : entB t.tabs e33 = true := by decide +kernel
theorem c34 : entB t.tabs e34 = true := by decide +kernel
theorem c35 : entB t.tabs e35 = true := by decide +kernel
theorem c36 : entB t.tabs e36 = true := by decide +kernel
theorem c37 : entB t.tabs e37 = true := by decide +kernel
theorem c38 : entB t.tabs e38 = true := by decide +kernel
theorem c39 : entB t.tabs e39 = true := by decide +kernel
theorem c109 : entB t.tabs e109 = true := by decide +kernel
theorem c110 : entB t.tabs e110 = true := by decide +kernel
theorem c111 : entB t.tabs e111 = true := by decide +kernel
theorem c112 : entB t.tabs e112 = true := by decide +kernel
theorem c114 : entB t.tabs e114 = true := by decide +kernel
theorem c115 : entB t.tabs e115 = true := by decide +kernel
theorem c117 : entB t.tabs e117 = true := by decide +kernel
theorem c118 : entB t.tabs e118 = true := by decide +kernel
theorem c119 : entB t.tabs e119 = true := by decide +kernel
theorem c120 : entB t.tabs e120 = true := by decide +kernel
theorem c349 : entB t.tabs e349 = true := by decide +kernel
theorem c350 : entB t.tabs e350 = true := by decide +kernel
theorem c351 : entB t.tabs e351 = true := by decide +kernel
theorem c352 : entB t.tabs e352 = true := by decide +kernel
theorem c353 : entB t.tabs e353 = true := by decide +kernel
theorem c354 : entB t.tabs e354 = true := by decide +kernel
theorem c355 : entB t.tabs e355 = true := by decide +kernel
theorem c356 : entB t.tabs e356 = true := by decide +kernel
theorem c357 : entB t.tabs e357 = true := by decide +kernel
theorem c358 : entB t.tabs e358 = true := by decide +kernel
theorem c359 : entB t.tabs e359 = true := by decide +kernel
theorem c360 : entB t.tabs e360 = true := by decide +kernel
theorem c361 : entB t.tabs e361 = true := by decide +kernel
theorem c362 : entB t.tabs e362 = true := by decide +kernel
theorem c363 : entB t.tabs e363 = true := by decide +kernel
theorem c364 : entB t.tabs e364 = true := by decide +kernel
theorem c365 : entB t.tabs e365 = true := by decide +kernel
theorem c366 : entB t.tabs e366 = true := by decide +kernel
theorem c367 : entB t.tabs e367 = true := by decide +kernel
theorem c368 : entB t.tabs e368 = true := by decide +kernel
theorem c369 : entB t.tabs e369 = true := by decide +kernel
theorem chk : es.all (entB t.tabs) = true := by
  simp only [es, List.all_cons, List.all_nil, Bool.and_self, c3, c4, c5, c6, c7, c8, c10, c14, c15, c16, c18, c19, c20, c21, c22, c23, c24, c25, c26, c27, c28, c29, c30, c31, c32, c33, c34, c35, c36, c37, c38, c39, c109, c110, c111, c112, c114, c115, c117, c118, c119, c120, c349, c350, c351, c352, c353, c354, c355, c356, c357, c358, c359, c360, c361, c362, c363, c364, c365, c366, c367, c368, c369]
theorem hd : Hd t es := ⟨rfl, chk, by decide +kernel, by decide +kernel, by decide +kernel, by decide +kernel, by decide +kernel, bnd⟩
end Zk.K03
-- Zf03
set_option maxHeartbeats 0
namespace Zk.K03
open PySem PySem.Spec PyProof.Rows L2
theorem ent_plan : entOf es 8 = some e8 := by rfl
theorem mk (P : Program) (w : World) (K : PySem.W.Frag) (mg : Str → Option Value) (base h : Heap) (X : K.In h) (G : h.Ns mainGlobals mg) (cD : He.SaysD t.fa (es.map (·.D)) K) (c : Nat) (x : Str) (hx : t.tabs.cnm c = some x) (hk : t.tabs.kwo c ≠ []) : MkK (mkW t es P w K mg base) t.tabs c x := by
  have hc : c = 13 := by
    apply Classical.byContradiction
    intro z
    apply hk
    have z2 : (c == 13) = false := by simpa using z
    show (List.lookup c [(13, _)]).getD [] = []
    rw [List.lookup_cons, z2]
    rfl
  subst hc
  have ex : x = "Plan" := by
    have e : t.tabs.cnm 13 = some "Plan" := by decide +kernel
    rw [e] at hx
    injection hx with hx
    exact hx.symm
  subst ex
  have F := ent_fun (P := P) (w := w) (mg := mg) (base := base) cD ent_plan
  have hdv : e8.D.dvs K = [] := rfl
  have hkw : e8.D.kws K = [(Str.ofString "adds", V.non), (Str.ofString "helper", V.non)] := rfl
  rw [hdv, hkw] at F
  have ei : t.tabs.init 13 = 8 := by decide +kernel
  have ep : (mkW t es P w K mg base).ps 8 = (["self", "leans", "adds", "helper"] : List Str) := rfl
  have ek : t.tabs.kwo 13 = (["adds", "helper"] : List Str) := by decide +kernel
  have en : t.tabs.npo 13 = 1 := by decide +kernel
  have hm : ((13 : Nat), (Str.ofString "Plan")) ∈ t.clL := lookup_mem (show t.clL.lookup 13 = some (Str.ofString "Plan") from by decide +kernel)
  have ec : (mkW t es P w K mg base).cA 13 = He.ga K "Plan" := by
    show He.ga K (cnOf t 13) = _
    rw [show cnOf t 13 = "Plan" from by decide +kernel]
  have ef : (mkW t es P w K mg base).fA 8 = He.ma K (He.ga K "Plan") "__init__" := rfl
  obtain ⟨m1, m2, m3, m4, m5⟩ := mem_fa (t := t)
  refine ⟨?_, ?_, fun ks hne hsub => ?_, ?_⟩
  · rw [ec]; exact He.glo_ok X G (cD.facts (m2 hm).1)
  · rw [ec, ei, ef]; exact He.mkr_ok (cD.facts (m2 hm).2.2)
  · rw [ei, ep, en]
    rw [ek] at hsub ⊢
    have h3 : ks = [Str.ofString "adds"] ∨ ks = [Str.ofString "helper"] ∨ ks = [Str.ofString "adds", Str.ofString "helper"] := by
      cases hsub with
      | cons _ h => cases h with
        | cons _ h => cases h; exact absurd rfl hne
        | cons_cons _ h => cases h; exact .inr (.inl rfl)
      | cons_cons _ h => cases h with
        | cons _ h => cases h; exact .inl rfl
        | cons_cons _ h => cases h; exact .inr (.inr rfl)
    rcases h3 with e | e | e
    · subst e
      obtain ⟨mv, B⟩ := FunD.kbinds0 (ps := ["self", "leans", "adds", "helper"]) F 2 ["adds"] [(Str.ofString "helper", V.non)] (fun us mv ws => us ++ (ws ++ mv)) (by simp) (by simp) (fun r1 r2 r3 => r1.append (r3.append r2))
        (fun D doc pm an cdv ct us mv ws l1 l2 l3 => match us, l1, mv, l2, ws, l3 with | [_, _], _, [_], _, [_], _ => ⟨_, _, _, _, _, _, rfl, rfl, rfl⟩)
      exact ⟨_, _, B, fun vs zs l1 l2 => match zs, l2 with | [z], _ => rfl⟩
    · subst e
      obtain ⟨mv, B⟩ := FunD.kbinds0 (ps := ["self", "leans", "adds", "helper"]) F 2 ["helper"] [(Str.ofString "adds", V.non)] (fun us mv ws => us ++ (mv ++ ws)) (by simp) (by simp) (fun r1 r2 r3 => r1.append (r2.append r3))
        (fun D doc pm an cdv ct us mv ws l1 l2 l3 => match us, l1, mv, l2, ws, l3 with | [_, _], _, [_], _, [_], _ => ⟨_, _, _, _, _, _, rfl, rfl, rfl⟩)
      exact ⟨_, _, B, fun vs zs l1 l2 => match zs, l2 with | [z], _ => rfl⟩
    · subst e
      obtain ⟨mv, B⟩ := FunD.kbinds0 (ps := ["self", "leans", "adds", "helper"]) F 2 ["adds", "helper"] [] (fun us mv ws => us ++ ws) (by simp) (by simp) (fun r1 r2 r3 => r1.append r3)
        (fun D doc pm an cdv ct us mv ws l1 l2 l3 => match us, l1, mv, l2, ws, l3 with | [_, _], _, [], _, [_, _], _ => rfl)
      exact ⟨_, _, B, fun vs zs l1 l2 => match zs, l2 with | [y, z], _ => rfl⟩
  · rw [ei, ep, ek]
    obtain ⟨ds, r, B⟩ := FunD.binds0 (ps := ["self", "leans", "adds", "helper"]) F 2 (by simp) rfl
      (fun D doc pm an cdv ct us mv l1 l2 => match us, l1, mv, l2 with | [_, _], _, [_, _], _ => ⟨_, _, _, _, _, _, rfl, rfl, _, _, _, _, _, _, rfl, rfl, rfl⟩)
    exact ⟨ds, B, r⟩
end Zk.K03
open PySem PySem.W PySem.Calls PyProof.Rows in
theorem Zk.K03.holds_of (law : ∀ ns : List Int, ns.length ≤ 63 → ∃ M, Zk.run Zk.K03.P 12 369 [.rol (ns.map Zk.PV.int)] [] = .ok (.bl true) M) : PySem.Challenge.rw_enddeeds_k03_whole_alike.Holds := by
  w_on; o_law
  refine HandSHeadRun.head_any (r := OpenLaw.row PySem.Challenge.rw_enddeeds_k03_whole_alike) (q := view (OpenLaw.row PySem.Challenge.rw_enddeeds_k03_whole_alike).prog [61]) (H := Zk.K03.hk) (ob := Zk.K03.ob) (M := 20000) (loose := Zk.K03.loose) (d := HandSHeadRun.topDef (OpenLaw.row PySem.Challenge.rw_enddeeds_k03_whole_alike).prog 61) (kwd := []) Zk.K03.ob_eq
    (by kernel_rfl) (fun s => by kernel_rfl) Zk.K03.run_ (by kernel_rfl) (by kernel_rfl) (by kernel_rfl) (by rfl) (by first | assumption | decide +kernel) (by decide +kernel) ⟨rfl, rfl, rfl, rfl, rfl, by decide +kernel⟩ ?hw ?hc
  case hw => w_witness2
  case hc =>
    exact Zk.law_end (t := Zk.K03.t) (es := Zk.K03.es) (l := PySem.Challenge.rw_enddeeds_k03_whole_alike) (n := 63) (lv := 12) (fl := 369) (fuel := 100000) (x := "_law_script") rfl (by decide) (by kernel_rfl) ⟨rfl, by decide, by decide⟩ Zk.K03.hd (by kernel_rfl) rfl (fun e he => by have e1 : Zk.entOf Zk.K03.es 369 = some Zk.K03.e369 := rfl; rw [e1] at he; cases he; exact Zk.K03.pb369) Zk.K03.mk law
-- ZkV
namespace Zk
open PySem

section
variable {α β : Type}
def fin : RS → R PV
  | .nx _ M => .ok .non M
  | .rt v M => .ok v M
  | .exc x _ M => .exc x M
  | _ => .bad
/-- a mark by which simp leaves a function alone -/
inductive Wt {γ : Type} (f : γ) : Type
  | mk
def R.bk (r : R α) (f : α → Store → R β) (_ : Wt f := .mk) : R β := r.bind f
def R.tk (r : R PV) (ρ : Sl) (f : PV → Store → RS) (_ : Wt f := .mk) : RS := r.toS ρ f
def RS.nk (r : RS) (f : Sl → Store → RS) (_ : Wt f := .mk) : RS := r.then f
/-- a branch -/
def br (v : PV) (x y : Unit → α) (z : α) (_ : Wt x := .mk) (_ : Wt y := .mk) : α := match v with
  | .bl true => x ()
  | .bl false => y ()
  | _ => z
def optS (o : Option Sl) (M : Store) : RS := match o with
  | some ρ => .nx ρ M
  | none => .bad
def optM (o : Option Store) (ρ : Sl) : RS := match o with
  | some M => .nx ρ M
  | none => .bad
def asgS (is : List Nat) (v : PV) (ρ : Sl) (M : Store) : RS := match v with
  | .tup vs => optS (setMany is vs ρ) M
  | _ => .bad
def optB (o : Option α) (f : α → β) (z : β) (_ : Wt f := .mk) : β := match o with
  | some a => f a
  | none => z
theorem br_bl {t : Bool} {x y : Unit → α} {z : α} {w : Wt x} {w' : Wt y} : br (.bl t) x y z w w' = if t = true then x () else y () := by cases t <;> rfl
theorem optB_some {a : α} {f : α → β} {z : β} {w : Wt f} : optB (some a) f z w = f a := rfl
theorem bind_ok {a : α} {M : Store} {f : α → Store → R β} {w : Wt f} : (R.ok a M).bk f w = f a M := rfl
theorem bind_exc {x : Exn} {M : Store} {f : α → Store → R β} {w : Wt f} : (R.exc x M).bk f w = .exc x M := rfl
theorem toS_ok {a : PV} {M : Store} {ρ : Sl} {f : PV → Store → RS} {w : Wt f} : (R.ok a M).tk ρ f w = f a M := rfl
theorem toS_exc {x : Exn} {M : Store} {ρ : Sl} {f : PV → Store → RS} {w : Wt f} : (R.exc x M).tk ρ f w = .exc x ρ M := rfl
theorem then_nx {ρ : Sl} {M : Store} {f : Sl → Store → RS} {w : Wt f} : (RS.nx ρ M).nk f w = f ρ M := rfl
theorem then_rt {v : PV} {M : Store} {f : Sl → Store → RS} {w : Wt f} : (RS.rt v M).nk f w = .rt v M := rfl
theorem then_ct {ρ : Sl} {M : Store} {f : Sl → Store → RS} {w : Wt f} : (RS.ct ρ M).nk f w = .ct ρ M := rfl
theorem then_exc {x : Exn} {ρ : Sl} {M : Store} {f : Sl → Store → RS} {w : Wt f} : (RS.exc x ρ M).nk f w = .exc x ρ M := rfl
theorem fin_nx {ρ : Sl} {M : Store} : fin (.nx ρ M) = .ok .non M := rfl
theorem fin_rt {v : PV} {M : Store} : fin (.rt v M) = .ok v M := rfl
theorem fin_exc {x : Exn} {ρ : Sl} {M : Store} : fin (.exc x ρ M) = .exc x M := rfl
theorem of_some {v : PV} {M : Store} : R.of (some v) M = .ok v M := rfl
theorem ofB_some_q {v : Bool} {M : Store} : R.ofB (some v) M = .ok (.bl v) M := rfl
theorem bind_ite {c : Prop} [Decidable c] {x y : R α} {f : α → Store → R β} {w : Wt f} : (if c then x else y).bk f w = if c then x.bk f w else y.bk f w := by split <;> rfl
theorem toS_ite {c : Prop} [Decidable c] {x y : R PV} {ρ : Sl} {f : PV → Store → RS} {w : Wt f} : (if c then x else y).tk ρ f w = if c then x.tk ρ f w else y.tk ρ f w := by split <;> rfl
theorem then_ite {c : Prop} [Decidable c] {x y : RS} {f : Sl → Store → RS} {w : Wt f} : (if c then x else y).nk f w = if c then x.nk f w else y.nk f w := by split <;> rfl
theorem fin_ite {c : Prop} [Decidable c] {x y : RS} : fin (if c then x else y) = if c then fin x else fin y := by split <;> rfl
theorem ok_bl_ite {t : Bool} {u v : Bool} {M : Store} : (if t = true then R.ok (PV.bl u) M else R.ok (PV.bl v) M) = R.ok (PV.bl (if t = true then u else v)) M := by cases t <;> rfl
end

def look : Sl → Nat → Option PV
  | [], _ => none
  | x :: _, 0 => x
  | _ :: r, n + 1 => look r n
theorem look_eq : ∀ (ρ : Sl) (i : Nat), (ρ[i]?).bind id = look ρ i
  | [], i => by simp [look]
  | x :: r, 0 => by simp [look]
  | x :: r, i + 1 => by simp only [List.getElem?_cons_succ, look]; exact look_eq r i
theorem look_z {x : Option PV} {r : Sl} : look (x :: r) 0 = x := rfl
theorem look_s {x : Option PV} {r : Sl} {n : Nat} : look (x :: r) (n + 1) = look r n := rfl
theorem setS_z {x : Option PV} {r : Sl} {v : PV} : setS (x :: r) 0 v = some v :: r := rfl
theorem setS_s {x : Option PV} {r : Sl} {v : PV} {n : Nat} : setS (x :: r) (n + 1) v = x :: setS r n v := rfl
theorem setMany_n {ρ : Sl} : setMany [] [] ρ = some ρ := rfl
theorem setMany_c {i : Nat} {is : List Nat} {v : PV} {vs : List PV} {ρ : Sl} : setMany (i :: is) (v :: vs) ρ = setMany is vs (setS ρ i v) := rfl
theorem setT_one {i : Nat} {v : PV} {ρ : Sl} : setT (.one i) v ρ = some (setS ρ i v) := rfl
theorem setT_many {is : List Nat} {vs : List PV} {ρ : Sl} : setT (.many is) (.tup vs) ρ = setMany is vs ρ := rfl
def wip : Sl → Nat → Sl
  | [], _ => []
  | _ :: r, 0 => none :: r
  | x :: r, n + 1 => x :: wip r n
theorem wip_eq : ∀ (ρ : Sl) (i : Nat), ρ.set i none = wip ρ i
  | [], i => rfl
  | x :: r, 0 => rfl
  | x :: r, i + 1 => by rw [List.set_cons_succ, wip_eq r i]; rfl
theorem wip_z {x : Option PV} {r : Sl} : wip (x :: r) 0 = none :: r := rfl
theorem wip_s {x : Option PV} {r : Sl} {n : Nat} : wip (x :: r) (n + 1) = x :: wip r n := rfl
theorem wipeS_n {ρ : Sl} : wipeS ρ [] = ρ := rfl
theorem wipeS_c {ρ : Sl} {v : Nat} {vs : List Nat} : wipeS ρ (v :: vs) = wip (wipeS ρ vs) v := wip_eq _ _
theorem bargs_tup {vs : List PV} : bargs (.tup vs) = vs := rfl

section
variable {T : Tabs} {call : Calls} {ρ : Sl} {M : Store} {e r a b c d : SE}
def negV (x : PV) (M : Store) : R PV := match x with
  | .int i => .ok (.int (-i)) M
  | _ => .bad
def notV (x : PV) (M : Store) : R PV := match x with
  | .bl b => .ok (.bl (!b)) M
  | _ => .bad
def chainV (o : Option Bool) (x : Unit → R PV) (y : R PV) (_ : Wt x := .mk) : R PV := match o with
  | some true => x ()
  | some false => y
  | none => .bad
def revV (x : PV) (M : Store) : R PV := match x with
  | .lst xs => .ok (.lst xs.reverse) M
  | _ => .bad
theorem chainV_some {t : Bool} {x : Unit → R PV} {y : R PV} {w : Wt x} : chainV (some t) x y w = if t = true then x () else y := by cases t <;> rfl
theorem ev_anil : ev T call .anil ρ M = .ok (.tup []) M := rfl
theorem ev_acons : ev T call (.acons e r) ρ M = (ev T call e ρ M).bk fun v M1 => (ev T call r ρ M1).bk fun w M2 => .ok (.tup (v :: bargs w)) M2 := rfl
theorem ev_astar : ev T call (.astar e r) ρ M = (ev T call e ρ M).bk fun v M1 => optB (seqV (thaw v M1)) (fun xs => (ev T call r ρ M1).bk fun w M2 => .ok (.tup (xs ++ bargs w)) M2) .bad := by
  refine congrArg (R.bind (ev T call e ρ M)) (funext fun v => funext fun M1 => ?_)
  cases seqV (thaw v M1) <;> rfl
theorem ev_var {i : Nat} : ev T call (.var i) ρ M = R.of (look ρ i) M := by rw [← look_eq]; rfl
theorem ev_cst {v : PV} : ev T call (.cst v) ρ M = .ok v M := rfl
theorem ev_glb {x : Str} : ev T call (.glb x) ρ M = R.of (T.glb x) M := rfl
theorem ev_tup : ev T call (.tup r) ρ M = (ev T call r ρ M).bk fun w M1 => if (bargs w).length ≤ mostLen then .ok (.tup (bargs w)) M1 else .bad := rfl
theorem ev_lstF : ev T call (.lst false r) ρ M = (ev T call r ρ M).bk fun w M1 => if (bargs w).length ≤ mostLen then .ok (.lst (bargs w)) M1 else .bad := rfl
theorem ev_lstT : ev T call (.lst true r) ρ M = (ev T call r ρ M).bk fun w M1 => if (bargs w).length ≤ mostLen then .ok (.loc M1.length) (M1 ++ [.lst (bargs w)]) else .bad := rfl
theorem ev_dct0 {t : Bool} : ev T call (.dct true t .anil .anil) ρ M = .ok (.loc M.length) (M ++ [.dct t [] []]) := rfl
theorem ev_dct1 {t : Bool} : ev T call (.dct true t (.acons a .anil) (.acons b .anil)) ρ M = (ev T call a ρ M).bk fun a M1 => (ev T call b ρ M1).bk fun b M2 => if keyOk t a then .ok (.loc M2.length) (M2 ++ [.dct t [a] [b]]) else .bad := rfl
theorem ev_bop {o : BOp} : ev T call (.bop o a b) ρ M = (ev T call a ρ M).bk fun x M1 => (ev T call b ρ M1).bk fun y M2 => R.of (bopV o x y) M2 := rfl
theorem ev_neg : ev T call (.neg a) ρ M = (ev T call a ρ M).bk fun x M1 => negV x M1 := rfl
theorem ev_cmp {o : COp} : ev T call (.cmp o a b) ρ M = (ev T call a ρ M).bk fun x M1 => (ev T call b ρ M1).bk fun y M2 => R.ofB (cmpV M2 o x y) M2 := rfl
theorem ev_chain {o o' : COp} : ev T call (.chain o o' a b c) ρ M = (ev T call a ρ M).bk fun x M1 => (ev T call b ρ M1).bk fun y M2 => chainV (cmpV M2 o x y) (fun _ => (ev T call c ρ M2).bk fun z M3 => R.ofB (cmpV M3 o' y z) M3) (.ok (.bl false) M2) := rfl
theorem ev_isN : ev T call (.isN a) ρ M = (ev T call a ρ M).bk fun x M1 => R.ofB (isNV x) M1 := rfl
theorem ev_notN : ev T call (.notN a) ρ M = (ev T call a ρ M).bk fun x M1 => R.ofB ((isNV x).map (!·)) M1 := rfl
theorem ev_notT : ev T call (.notT a) ρ M = (ev T call a ρ M).bk fun x M1 => notV x M1 := rfl
theorem ev_notE : ev T call (.notE a) ρ M = (ev T call a ρ M).bk fun x M1 => notV x M1 := rfl
theorem ev_dne : ev T call (.dne a b) ρ M = (ev T call a ρ M).bk fun x M1 => (ev T call b ρ M1).bk fun y M2 => R.ofB (dneV x y) M2 := rfl
theorem ev_lenO : ev T call (.lenO e) ρ M = (ev T call e ρ M).bk fun x M1 => optB (methOf T x "__len__" M1) (fun f => lenEnd (callV true (call f) [x] M1)) .bad := by
  refine congrArg (R.bind (ev T call e ρ M)) (funext fun v => funext fun M1 => ?_)
  cases methOf T v "__len__" M1 <;> rfl
theorem ev_and : ev T call (.andE a b) ρ M = (ev T call a ρ M).bk fun x M1 => br x (fun _ => ev T call b ρ M1) (fun _ => .ok (.bl false) M1) .bad := rfl
theorem ev_or : ev T call (.orE a b) ρ M = (ev T call a ρ M).bk fun x M1 => br x (fun _ => .ok (.bl true) M1) (fun _ => ev T call b ρ M1) .bad := rfl
theorem ev_ife : ev T call (.ife c a b) ρ M = (ev T call c ρ M).bk fun x M1 => br x (fun _ => ev T call a ρ M1) (fun _ => ev T call b ρ M1) .bad := rfl
theorem ev_attr {f : Str} : ev T call (.attr e f) ρ M = (ev T call e ρ M).bk fun x M1 => R.of (attrV T f x M1) M1 := rfl
theorem ev_sub : ev T call (.sub a b) ρ M = (ev T call a ρ M).bk fun x M1 => (ev T call b ρ M1).bk fun y M2 => R.of (subV x y M2) M2 := rfl
theorem ev_slc {lo hi : SE} : ev T call (.slc a lo hi) ρ M = (ev T call a ρ M).bk fun x M1 => (ev T call lo ρ M1).bk fun y M2 => optB (partV (isAnil lo) y) (fun l => (ev T call hi ρ M2).bk fun z M3 => optB (partV (isAnil hi) z) (fun h => R.of (slcV x l h M3) M3) .bad) .bad := by
  refine congrArg (R.bind (ev T call a ρ M)) (funext fun x => funext fun M1 => ?_)
  refine congrArg (R.bind (ev T call lo ρ M1)) (funext fun y => funext fun M2 => ?_)
  cases partV (isAnil lo) y with
  | none => rfl
  | some l =>
    refine congrArg (R.bind (ev T call hi ρ M2)) (funext fun z => funext fun M3 => ?_)
    cases partV (isAnil hi) z <;> rfl
theorem ev_rev : ev T call (.rev a) ρ M = (ev T call a ρ M).bk fun x M1 => revV (thaw x M1) M1 := rfl
theorem ev_call {f : Nat} {iso : Bool} : ev T call (.call f iso r) ρ M = (ev T call r ρ M).bk fun w M1 => callV iso (call f) (bargs w) M1 := rfl
theorem ev_make {k : Nat} {fz : Bool} : ev T call (.make k fz r) ρ M = (ev T call r ρ M).bk fun w M1 => makeV fz k (call (T.init k)) (bargs w) M1 := rfl
theorem ev_mkK {k : Nat} {fz : Bool} {kr : SE} {ks : List Str} : ev T call (.mkK k fz r kr ks) ρ M = (ev T call r ρ M).bk fun w M1 => (ev T call kr ρ M1).bk fun w2 M2 => if (bargs w2).length == ks.length then makeV fz k (call (T.init k)) (bargs w ++ fillK (T.kwo k) ks (bargs w2)) M2 else .bad := rfl
theorem ev_meth {m : Str} {iso : Bool} : ev T call (.meth e m iso r) ρ M = (ev T call e ρ M).bk fun x M1 => optB (methOf T x m M1) (fun f => (ev T call r ρ M1).bk fun w M2 => callV iso (call f) (x :: bargs w) M2) .bad := by
  refine congrArg (R.bind (ev T call e ρ M)) (funext fun v => funext fun M1 => ?_)
  cases methOf T v m M1 <;> rfl
theorem ev_blt_q {k : Blt} : ev T call (.blt k r) ρ M = (ev T call r ρ M).bk fun w M1 => bltV k (bargs w) M1 := rfl
theorem ev_bm_q {k : BMt} : ev T call (.bm e k r) ρ M = (ev T call e ρ M).bk fun x M1 => if bmOk k x M1 then (ev T call r ρ M1).bk fun w M2 => bmV k x (bargs w) M2 else .bad := rfl
theorem ev_isi {ts : List Ty} : ev T call (.isi e ts) ρ M = (ev T call e ρ M).bk fun x M1 => R.ofB (isiV T x M1 ts) M1 := rfl
theorem ev_lc {elt it cond : SE} {tg : Tg} {own : List Nat} {k : ItK} : ev T call (.lc elt tg own k it cond) ρ M = (ev T call it ρ M).bk fun w M1 => optB (walkV k (bargs w)) (fun items => lcEnd (lcLoop (lcTurn tg own ρ (ev T call cond) (ev T call elt)) items [] M1)) .bad := by
  refine congrArg (R.bind (ev T call it ρ M)) (funext fun w => funext fun M1 => ?_)
  cases walkV k (bargs w) <;> rfl
theorem ev_dc {key val it cond : SE} {t : Bool} {tg : Tg} {own : List Nat} {k : ItK} : ev T call (.dc t key val tg own k it cond) ρ M = (ev T call it ρ M).bk fun w M1 => optB (walkV k (bargs w)) (fun items => dcEnd t (dcLoop (dcTurn t tg own ρ (ev T call cond) (ev T call key) (ev T call val)) items ([], []) M1)) .bad := by
  refine congrArg (R.bind (ev T call it ρ M)) (funext fun w => funext fun M1 => ?_)
  cases walkV k (bargs w) <;> rfl
theorem ev_frz : ev T call (.frz e) ρ M = (ev T call e ρ M).bk fun v M1 => frzV v M1 := rfl
end
section
variable {T : Tabs} {call : Calls} {fuel : Nat} {ρ : Sl} {M : Store} {e : SE} {s r a b : SS}
def asgAS (T : Tabs) (fs : List Str) (v : PV) (o : Option PV) (ρ : Sl) (M : Store) : RS := match v, o with
  | .tup vs, some x => optM (setAs T x fs vs M) ρ
  | _, _ => .bad
theorem ex_nil : exec T call fuel .nil ρ M = .nx ρ M := rfl
theorem ex_cons : exec T call fuel (.cons s r) ρ M = (exec T call fuel s ρ M).nk fun ρ1 M1 => exec T call fuel r ρ1 M1 := rfl
theorem ex_expr : exec T call fuel (.expr e) ρ M = (ev T call e ρ M).tk ρ fun _ M1 => .nx ρ M1 := rfl
theorem ex_set {i : Nat} : exec T call fuel (.set i e) ρ M = (ev T call e ρ M).tk ρ fun v M1 => .nx (setS ρ i v) M1 := rfl
theorem ex_asg {is : List Nat} : exec T call fuel (.asg is e) ρ M = (ev T call e ρ M).tk ρ fun v M1 => asgS is v ρ M1 := rfl
theorem ex_par {is : List Nat} : exec T call fuel (.par is e) ρ M = (ev T call e ρ M).tk ρ fun w M1 => optS (setMany is (bargs w) ρ) M1 := rfl
theorem ex_setA {o : SE} {f : Str} : exec T call fuel (.setA o f e) ρ M = (ev T call e ρ M).tk ρ fun v M1 => (ev T call o ρ M1).tk ρ fun x M2 => optM (setAV T x f v M2) ρ := rfl
theorem ex_asgA {n : Nat} {fs : List Str} : exec T call fuel (.asgA n fs e) ρ M = (ev T call e ρ M).tk ρ fun v M1 => asgAS T fs v (look ρ n) ρ M1 := by rw [← look_eq]; rfl
theorem ex_setI {o i : SE} : exec T call fuel (.setI o i e) ρ M = (ev T call e ρ M).tk ρ fun v M1 => (ev T call o ρ M1).tk ρ fun x M2 => (ev T call i ρ M2).tk ρ fun y M3 => optM (setIV x y v M3) ρ := rfl
theorem ex_ret : exec T call fuel (.ret e) ρ M = (ev T call e ρ M).tk ρ fun v M1 => .rt v M1 := rfl
theorem ex_retN : exec T call fuel .retN ρ M = .rt .non M := rfl
theorem ex_ife : exec T call fuel (.ife e a b) ρ M = (ev T call e ρ M).tk ρ fun v M1 => br v (fun _ => exec T call fuel a ρ M1) (fun _ => exec T call fuel b ρ M1) .bad := rfl
theorem ex_for {tg : Tg} {k : ItK} : exec T call fuel (.forr tg k e a) ρ M = (ev T call e ρ M).tk ρ fun w M1 => optB (walkV k (bargs w)) (fun items => forLoop tg (exec T call fuel a) items ρ M1) .bad := by
  refine congrArg (R.toS (ev T call e ρ M) ρ) (funext fun w => funext fun M1 => ?_)
  cases walkV k (bargs w) <;> rfl
theorem ex_whil : exec T call fuel (.whil e a) ρ M = whileLoop (ev T call e) (exec T call fuel a) fuel ρ M := rfl
theorem ex_pass : exec T call fuel .pass ρ M = .nx ρ M := rfl
theorem ex_cont : exec T call fuel .cont ρ M = .ct ρ M := rfl
theorem optS_some : optS (some ρ) M = .nx ρ M := rfl
theorem optM_some : optM (some M) ρ = .nx ρ M := rfl
theorem asgS_tup {is : List Nat} {vs : List PV} : asgS is (.tup vs) ρ M = optS (setMany is vs ρ) M := rfl
theorem asgAS_tup {fs : List Str} {vs : List PV} {x : PV} : asgAS T fs (.tup vs) (some x) ρ M = optM (setAs T x fs vs M) ρ := rfl
theorem runDef_eq {d : FD} {vs : List PV} (h : vs.length = d.n) : runDef T call fuel d vs M = fin (exec T call fuel d.body (startS d.m vs) M) := by
  unfold runDef
  rw [if_pos (by rw [h]; simp)]
  cases exec T call fuel d.body (startS d.m vs) M <;> rfl
theorem run_at {P : Prg} {n f : Nat} {d : FD} {vs : List PV} (hd : P.df f = some d) (h : vs.length = d.n) : run P (n + 1) f vs M = fin (exec P.T (run P n) P.fuel d.body (startS d.m vs) M) := by
  show (match P.df f with | some d => runDef P.T (run P n) P.fuel d vs M | none => .bad) = _
  rw [hd]
  exact runDef_eq h
end
end Zk
-- ZkR
namespace Zk
open PySem

abbrev ti (l : List Int) : PV := .tup (l.map PV.int)
def eH : Option Wo → PV
  | none => .non
  | some w => .str w.s
def eL : Option (List Int) → PV
  | none => .non
  | some l => ti l
def eI : Option Int → PV
  | none => .non
  | some i => .int i
structure S where
  ph : Wo
  ld : List Int
  q : List Int
  gn : List Int
  hd : Option Wo
  deriving DecidableEq
def S.e (s : S) : PV := .tup [.str s.ph.s, ti s.ld, ti s.q, ti s.gn, eH s.hd]
structure Mo where
  ln : List (Option (List Int))
  ad : List (Option Int)
  hp : Option Int
  deriving DecidableEq
structure Ru where
  o : Wo
  n : Wo
  c : Wo
  h : Wo
  e : Wo
  deriving DecidableEq
def Ru.v (r : Ru) : PV := .tup [.str r.o.s, .str r.n.s, .str r.c.s, .str r.h.s, .str r.e.s]
def PL : List Str := ["leans", "adds", "helper"]
def Mo.p (m : Mo) : PV := .obj 13 PL [.tup (m.ln.map eL), .tup (m.ad.map eI), eI m.hp]
def Mo.m (m : Mo) : PV := .tup [.tup (m.ln.map eL), .tup (m.ad.map eI), eI m.hp]
inductive Stp where
  | ld (p : Int)
  | ag (p : Int)
  | w (x : Wo)
  deriving DecidableEq
def Stp.e : Stp → PV
  | .ld p => .tup [.str Wo.load.s, .int p]
  | .ag p => .tup [.str Wo.again.s, .int p]
  | .w x => .tup [.str x.s]

section
variable {M : Store} {xs ys : List PV} {x y : PV} {l : List Int} {a b : Wo} {i j : Int}
theorem thaw_tup_q : thaw (.tup xs) M = .tup xs := rfl
theorem thaw_lst : thaw (.lst xs) M = .lst xs := rfl
theorem thaw_str {z : Str} : thaw (.str z) M = .str z := rfl
theorem thaw_int : thaw (.int i) M = .int i := rfl
theorem thaw_non : thaw .non M = .non := rfl
theorem thaw_bl {t : Bool} : thaw (.bl t) M = .bl t := rfl
theorem seqV_tup : seqV (.tup xs) = some xs := rfl
theorem seqV_lst : seqV (.lst xs) = some xs := rfl
theorem len_tup : bltV .len [.tup xs] M = .ok (.int xs.length) M := rfl
theorem len_lst : bltV .len [.lst xs] M = .ok (.int xs.length) M := rfl
theorem lt_int : cmpV M .lt (.int i) (.int j) = some (decide (i < j)) := rfl
theorem le_int : cmpV M .le (.int i) (.int j) = some (decide (i ≤ j)) := rfl
theorem gt_int : cmpV M .gt (.int i) (.int j) = some (decide (j < i)) := rfl
theorem ge_int : cmpV M .ge (.int i) (.int j) = some (decide (j ≤ i)) := rfl
theorem eq_int : cmpV M .eq (.int i) (.int j) = some (decide (i = j)) := by
  show some (i == j) = _
  congr 1
theorem ne_int : cmpV M .ne (.int i) (.int j) = some (!decide (i = j)) := by
  show some (!(i == j)) = _
  congr 1
theorem cmp_in : cmpV M .inn x y = inV x y M := by cases x <;> rfl
theorem cmp_notin : cmpV M .notin x y = (inV x y M).map (!·) := by cases x <;> rfl
theorem shp_str {z : Str} (h : strGood z = true) : shp (.str z) = true := by simp [shp, okD, dep, h]
theorem eq_word : cmpV M .eq (.str a.s) (.str b.s) = some (decide (a = b)) := by
  simp only [cmpV, thaw_str, shp_str (Wo.good _), Bool.and_self, if_true, eqB, Wo.s_beq]
theorem ne_word : cmpV M .ne (.str a.s) (.str b.s) = some (!decide (a = b)) := by
  simp only [cmpV, thaw_str, shp_str (Wo.good _), Bool.and_self, if_true, eqB, Wo.s_beq]
theorem eq_hand {h : Option Wo} : cmpV M .eq (eH h) (.str b.s) = some (decide (h = some b)) := by
  cases h with
  | none => simp [eH, cmpV, thaw, Wo.good, eqB, shp, okD, dep]
  | some a => simp only [eH, eq_word, Option.some.injEq]
theorem eq_eI {h : Option Int} : cmpV M .eq (eI h) (.int i) = some (decide (h = some i)) := by
  cases h with
  | none => simp [eI, cmpV, thaw, eqB, shp, okD, dep]
  | some a => simp only [eI, eq_int, Option.some.injEq]
theorem okDL_ints : ∀ l : List Int, okDL (l.map PV.int) = true
  | [] => rfl
  | i :: l => by simp only [List.map_cons, okDL, okD, okDL_ints l, Bool.and_self]
theorem depL_ints : ∀ l : List Int, depL (l.map PV.int) = 0
  | [] => rfl
  | i :: l => by simp only [List.map_cons, depL, dep, depL_ints l, Nat.max_self]
theorem shp_ti : shp (.tup (l.map PV.int)) = true := by simp [shp, okD, dep, okDL_ints, depL_ints]
theorem shp_nil : shp (.tup []) = true := rfl
theorem eqB_nil : eqB (.tup xs) (.tup []) = xs.isEmpty := by cases xs <;> simp [eqB, eqBL]
theorem eqB_int : eqB (.int i) (.int j) = decide (i = j) := by
  show (i == j) = _
  rfl
theorem ne_ti_nil : cmpV M .ne (.tup (l.map PV.int)) (.tup []) = some (!l.isEmpty) := by
  simp only [cmpV, thaw_tup_q, shp_ti, shp_nil, Bool.and_self, if_true, eqB_nil, List.isEmpty_map]
theorem all_flat : ∀ l : List Int, (l.map PV.int).all flat = true
  | [] => rfl
  | i :: l => by simp only [List.map_cons, List.all_cons, flat, all_flat l, Bool.and_self]
theorem any_eq : ∀ (l : List Int) (i : Int), ((l.map PV.int).any fun z => eqB z (.int i)) = l.contains i
  | [], i => rfl
  | j :: l, i => by
    simp only [List.map_cons, List.any_cons, any_eq l i, eqB_int, List.contains_cons]
    congr 1
    exact decide_eq_decide.mpr eq_comm
theorem in_ti : inV (.int i) (.tup (l.map PV.int)) M = some (l.contains i) := by
  simp only [inV, flat, all_flat, Bool.and_self, if_true, any_eq]
theorem bop_add : bopV .add (.int i) (.int j) = some (.int (i + j)) := rfl
theorem bop_sub : bopV .sub (.int i) (.int j) = some (.int (i - j)) := rfl
theorem bop_addT (h : xs.length + ys.length ≤ mostLen) : bopV .add (.tup xs) (.tup ys) = some (.tup (xs ++ ys)) := if_pos h
theorem bop_addL (h : xs.length + ys.length ≤ mostLen) : bopV .add (.lst xs) (.lst ys) = some (.lst (xs ++ ys)) := if_pos h
theorem neg_int : negV (.int i) M = .ok (.int (-i)) M := rfl
theorem not_bl {t : Bool} : notV (.bl t) M = .ok (.bl (!t)) M := rfl
theorem sub_tup : subV (.tup xs) (.int i) M = atI xs i := rfl
theorem sub_lst : subV (.lst xs) (.int i) M = atI xs i := rfl
theorem at0 {r : List PV} : atI (x :: r) 0 = some x := by
  simp only [atI, ixN, List.length_cons]
  have h : (0 : Int) < ((r.length + 1 : Nat) : Int) := by omega
  simp [h]
theorem at5_1 {a b c d e : PV} : atI [a, b, c, d, e] 1 = some b := rfl
theorem at5_2 {a b c d e : PV} : atI [a, b, c, d, e] 2 = some c := rfl
theorem at5_3 {a b c d e : PV} : atI [a, b, c, d, e] 3 = some d := rfl
theorem at5_4 {a b c d e : PV} : atI [a, b, c, d, e] 4 = some e := rfl
theorem at2_1 {a b : PV} : atI [a, b] 1 = some b := rfl
theorem at3_1 {a b c : PV} : atI [a, b, c] 1 = some b := rfl
theorem at3_2 {a b c : PV} : atI [a, b, c] 2 = some c := rfl
theorem at_map {α : Type} {f : α → PV} {l : List α} : atI (l.map f) i = (atI l i).map f := by
  simp only [atI, List.length_map]
  cases ixN l.length i with
  | none => rfl
  | some j => simp
theorem slc_tup {lo hi : Option Int} : slcV (.tup xs) lo hi M = some (.tup (cut xs lo hi)) := rfl
theorem slc_lst {lo hi : Option Int} : slcV (.lst xs) lo hi M = some (.lst (cut xs lo hi)) := rfl
theorem cut_map {α : Type} {f : α → PV} {l : List α} {lo hi : Option Int} : cut (l.map f) lo hi = (cut l lo hi).map f := by
  simp only [cut, List.length_map, List.map_take, List.map_drop]
theorem part_none {v : PV} : partV true v = some none := rfl
theorem part_int : partV false (.int i) = some (some i) := rfl
theorem isAnil_anil : isAnil .anil = true := rfl
theorem isAnil_cst {v : PV} : isAnil (.cst v) = false := rfl
theorem isAnil_var {n : Nat} : isAnil (.var n) = false := rfl
theorem isAnil_neg {e : SE} : isAnil (.neg e) = false := rfl
theorem isAnil_bop {o : BOp} {e d : SE} : isAnil (.bop o e d) = false := rfl
theorem isNV_eL {o : Option (List Int)} : isNV (eL o) = some o.isNone := by cases o <;> rfl
theorem isNV_eI {o : Option Int} : isNV (eI o) = some o.isNone := by cases o <;> rfl
theorem isNV_non : isNV .non = some true := rfl
theorem isNV_tup : isNV (.tup xs) = some false := rfl
theorem isNV_lst : isNV (.lst xs) = some false := rfl
theorem isNV_int : isNV (.int i) = some false := rfl
def tupV (w : PV) (M : Store) : R PV := if (bargs w).length ≤ mostLen then .ok (.tup (bargs w)) M else .bad
def lstV (w : PV) (M : Store) : R PV := if (bargs w).length ≤ mostLen then .ok (.lst (bargs w)) M else .bad
def lstMV (w : PV) (M : Store) : R PV := if (bargs w).length ≤ mostLen then .ok (.loc M.length) (M ++ [.lst (bargs w)]) else .bad
theorem tupV_ok (h : xs.length ≤ mostLen) : tupV (.tup xs) M = .ok (.tup xs) M := if_pos h
theorem lstV_ok (h : xs.length ≤ mostLen) : lstV (.tup xs) M = .ok (.lst xs) M := if_pos h
theorem lstMV_ok (h : xs.length ≤ mostLen) : lstMV (.tup xs) M = .ok (.loc M.length) (M ++ [.lst xs]) := if_pos h
end
section
variable {T : Tabs} {call : Calls} {ρ : Sl} {M : Store} {r : SE} {g : List PV → Store → R PV} {vs : List PV}
theorem ev_tup' : ev T call (.tup r) ρ M = (ev T call r ρ M).bk fun w M1 => tupV w M1 := rfl
theorem ev_lst' : ev T call (.lst false r) ρ M = (ev T call r ρ M).bk fun w M1 => lstV w M1 := rfl
theorem ev_lstM' : ev T call (.lst true r) ρ M = (ev T call r ρ M).bk fun w M1 => lstMV w M1 := rfl
def isoEnd (r : R PV) (M : Store) : R PV := match r with
  | .ok v _ => if locF v then .ok v M else .bad
  | .exc x _ => (match x.f with
    | none => .exc x M
    | some (_, v) => if locF v then .exc x M else .bad)
  | .bad => .bad
theorem isoEnd_ok {v : PV} {M' : Store} (h : locF v = true) : isoEnd (.ok v M') M = .ok v M := if_pos h
theorem callT (h : locFL vs = true) : callV true g vs M = isoEnd (g vs []) M := by
  show isoCall g vs M = _
  unfold isoCall
  rw [if_pos h]
  rfl
theorem callF : callV false g vs M = g vs M := rfl
theorem lenEnd_int {n : Int} (h0 : 0 ≤ n) (h1 : n < 1000000) : lenEnd (.ok (.int n) M) = .ok (.int n) M := by simp [lenEnd, h0, h1]
theorem locFL_ints : ∀ l : List Int, locFL (l.map PV.int) = true
  | [] => rfl
  | i :: l => by simp only [List.map_cons, locFL, locF, locFL_ints l, Bool.and_self]
theorem locF_eH {h : Option Wo} : locF (eH h) = true := by cases h <;> rfl
theorem locF_eI {h : Option Int} : locF (eI h) = true := by cases h <;> rfl
theorem locF_eL {h : Option (List Int)} : locF (eL h) = true := by
  cases h with
  | none => rfl
  | some l => simp only [eL, locF, locFL_ints]
theorem locFL_map {α : Type} {f : α → PV} (hf : ∀ a, locF (f a) = true) : ∀ l : List α, locFL (l.map f) = true
  | [] => rfl
  | i :: l => by simp only [List.map_cons, locFL, hf, locFL_map hf l, Bool.and_self]
theorem locF_e (s : S) : locF s.e = true := by simp only [S.e, locF, locFL, locFL_ints, locF_eH, Bool.and_self]
theorem locF_v (s : Ru) : locF s.v = true := by simp only [Ru.v, locF, locFL, Bool.and_self]
theorem locF_p (m : Mo) : locF m.p = true := by simp only [Mo.p, locF, locFL, locFL_map (fun _ => locF_eL), locFL_map (fun _ => locF_eI), locF_eI, Bool.and_self]
theorem locF_m (m : Mo) : locF m.m = true := by simp only [Mo.m, locF, locFL, locFL_map (fun _ => locF_eL), locFL_map (fun _ => locF_eI), locF_eI, Bool.and_self]
theorem locF_stp (s : Stp) : locF s.e = true := by cases s <;> rfl
end
end Zk
namespace Zk
open PySem
section
variable {tg : Tg} {own : List Nat} {ρ : Sl} {cond elt : Sl → Store → R PV} {M : Store}
def turnV (r : R PV) (k : Store → Option (Option PV × Store)) (_ : Wt k := .mk) : Option (Option PV × Store) := match r with
  | .ok (.bl true) M => k M
  | .ok (.bl false) M => some (none, M)
  | _ => none
def valO (r : R PV) : Option (Option PV × Store) := match r with
  | .ok v M => some (some v, M)
  | _ => none
theorem turnV_bl {t : Bool} {k : Store → Option (Option PV × Store)} {w : Wt k} : turnV (.ok (.bl t) M) k w = if t = true then k M else some (none, M) := by cases t <;> rfl
theorem valO_ok {v : PV} : valO (.ok v M) = some (some v, M) := rfl
theorem lcTurn_eq {x : PV} : lcTurn tg own ρ cond elt x M = optB (setT tg x (wipeS ρ own)) (fun ρ' => turnV (cond ρ' M) (fun M2 => valO (elt ρ' M2))) none := by
  unfold lcTurn
  cases setT tg x (wipeS ρ own) with
  | none => rfl
  | some ρ' =>
    show (match (cond ρ' M).okB with | some (true, M2) => _ | some (false, M2) => _ | none => _) = turnV (cond ρ' M) _
    cases cond ρ' M with
    | ok v M2 =>
      cases v with
      | bl t =>
        cases t with
        | false => rfl
        | true =>
          show (match (elt ρ' M2).val with | some (v, M3) => some (some v, M3) | none => none) = valO (elt ρ' M2)
          cases elt ρ' M2 <;> rfl
      | _ => rfl
    | _ => rfl
theorem lcLoop_map {α : Type} {f : α → PV} {F : PV → Store → Option (Option PV × Store)} {g : α → Bool} {k : α → PV} {M : Store} : ∀ {xs : List α} {acc : List PV}, (∀ x ∈ xs, F (f x) M = some (if g x = true then some (k x) else none, M)) → acc.length + xs.length ≤ mostLen → lcLoop F (xs.map f) acc M = some (acc ++ (xs.filter g).map k, M)
  | [], acc, _, _ => by simp [lcLoop]
  | x :: xs, acc, h, hl => by
    have h1 := h x List.mem_cons_self
    have h2 : ∀ y ∈ xs, F (f y) M = some (if g y = true then some (k y) else none, M) := fun y hy => h y (List.mem_cons_of_mem _ hy)
    simp only [List.length_cons] at hl
    rw [List.map_cons, List.filter_cons]
    unfold lcLoop
    rw [h1]
    cases q : g x with
    | true =>
      simp only [if_true]
      rw [if_pos (by omega), lcLoop_map h2 (by rw [List.length_append]; simp; omega)]
      simp
    | false =>
      simp only [Bool.false_eq_true, if_false]
      exact lcLoop_map h2 (by omega)
theorem lc_map {α : Type} {f : α → PV} {F : PV → Store → Option (Option PV × Store)} {xs : List α} (g : α → Bool) (k : α → PV) {M : Store} (h : ∀ x ∈ xs, F (f x) M = some (if g x = true then some (k x) else none, M)) (hl : xs.length ≤ mostLen) : lcEnd (lcLoop F (xs.map f) [] M) = .ok (.lst ((xs.filter g).map k)) M := by
  rw [lcLoop_map h (by simpa using hl)]
  rfl
theorem lc_all {α : Type} {f : α → PV} {F : PV → Store → Option (Option PV × Store)} {xs : List α} (k : α → PV) {M : Store} (h : ∀ x ∈ xs, F (f x) M = some (some (k x), M)) (hl : xs.length ≤ mostLen) : lcEnd (lcLoop F (xs.map f) [] M) = .ok (.lst (xs.map k)) M := by
  rw [lc_map (fun _ => true) k (fun x hx => by rw [h x hx]; rfl) hl, List.filter_eq_self.mpr (fun _ _ => rfl)]
end
def rng (n : Nat) : List Int := (List.range n).map Int.ofNat
theorem rangeL_eq : ∀ (n k : Nat), rangeL (k : Int) n = (List.range' k n).map fun j => PV.int (Int.ofNat j)
  | 0, k => rfl
  | n + 1, k => by
    rw [List.range'_succ, List.map_cons]
    show PV.int k :: rangeL ((k : Int) + 1) n = _
    have := rangeL_eq n (k + 1)
    rw [show ((k : Int) + 1) = ((k + 1 : Nat) : Int) from rfl, this]
    rfl
theorem rangeL_rng (n : Nat) : rangeL 0 n = (rng n).map PV.int := by
  have := rangeL_eq n 0
  rw [show ((0 : Nat) : Int) = (0 : Int) from rfl] at this
  rw [this, rng, List.map_map, ← List.range_eq_range']
  rfl
theorem boolsL_map {α : Type} {g : α → Bool} : ∀ l : List α, boolsL (l.map fun x => PV.bl (g x)) = some (l.map g)
  | [] => rfl
  | x :: l => by simp only [List.map_cons, boolsL, boolsL_map l, Option.map_some]
theorem all_bl {α : Type} {g : α → Bool} {l : List α} {M : Store} : bltV .all [.lst (l.map fun x => PV.bl (g x))] M = .ok (.bl (l.all g)) M := by
  show (match boolsL _ with | some bs => R.ok (PV.bl (bs.all id)) M | none => .bad) = _
  rw [boolsL_map]
  simp
theorem any_bl {α : Type} {g : α → Bool} {l : List α} {M : Store} : bltV .any [.lst (l.map fun x => PV.bl (g x))] M = .ok (.bl (l.any g)) M := by
  show (match boolsL _ with | some bs => R.ok (PV.bl (bs.any id)) M | none => .bad) = _
  rw [boolsL_map]
  simp
theorem intsL_map : ∀ l : List Int, intsL (l.map PV.int) = some l
  | [] => rfl
  | x :: l => by simp only [List.map_cons, intsL, intsL_map l, Option.map_some]
theorem srt_ints {l : List Int} {M : Store} (h : l.length < 64) : bltV .srt [.lst (l.map PV.int)] M = .ok (.lst ((srtI l).map PV.int)) M := by
  show (match intsL _ with | some bs => if bs.length < 64 then R.ok (PV.lst ((srtI bs).map PV.int)) M else .bad | none => .bad) = _
  rw [intsL_map]
  exact if_pos h
theorem srt_intsT {l : List Int} {M : Store} (h : l.length < 64) : bltV .srt [.tup (l.map PV.int)] M = .ok (.lst ((srtI l).map PV.int)) M := by
  show (match intsL _ with | some bs => if bs.length < 64 then R.ok (PV.lst ((srtI bs).map PV.int)) M else .bad | none => .bad) = _
  rw [intsL_map]
  exact if_pos h
theorem tupl_lst {xs : List PV} {M : Store} : bltV .tupl [.lst xs] M = .ok (.tup xs) M := rfl
theorem tupl_tup {xs : List PV} {M : Store} : bltV .tupl [.tup xs] M = .ok (.tup xs) M := rfl
theorem lstF_lst {xs : List PV} {M : Store} : bltV .lstF [.lst xs] M = .ok (.lst xs) M := rfl
theorem lstF_tup {xs : List PV} {M : Store} : bltV .lstF [.tup xs] M = .ok (.lst xs) M := rfl
theorem lrng_int {j : Nat} {M : Store} (h : j ≤ 1000000) : bltV .lrng [.int j] M = .ok (.lst ((rng j).map PV.int)) M := by
  show (if decide (-1000000 ≤ (j : Int)) && decide ((j : Int) ≤ 1000000) then R.ok (PV.lst (rangeL 0 (j : Int).toNat)) M else .bad) = _
  rw [if_pos (by simp; omega), Int.toNat_natCast, rangeL_rng]
theorem walk_tup {xs : List PV} : walkV .val [.tup xs] = some xs := rfl
theorem walk_lst {xs : List PV} : walkV .val [.lst xs] = some xs := rfl
theorem walk_rng {j : Nat} (h : j ≤ 1000000) : walkV .range [.int j] = some ((rng j).map PV.int) := by
  show (if decide (-1000000 ≤ (j : Int)) && decide ((j : Int) ≤ 1000000) then some (rangeL 0 (j : Int).toNat) else none) = _
  rw [if_pos (by simp; omega), Int.toNat_natCast, rangeL_rng]
theorem walk_zipT {xs ys : List PV} : walkV .zip [.tup xs, .tup ys] = some (zip2 xs ys) := rfl
theorem walk_zipL {xs ys : List PV} : walkV .zip [.lst xs, .lst ys] = some (zip2 xs ys) := rfl
theorem cut_hi {α : Type} {q : List α} {v : Int} (h : 0 ≤ v) : cut q none (some v) = q.take v.toNat := by
  have e : sIx q.length q.length (some v) = min v.toNat q.length := by
    show (if v < 0 then _ else _) = _
    rw [if_neg (by omega)]
  show ((q.drop 0).take (sIx q.length q.length (some v) - 0)) = _
  rw [e, List.drop_zero, Nat.sub_zero]
  rcases Nat.le_total v.toNat q.length with z | z
  · rw [Nat.min_eq_left z]
  · rw [Nat.min_eq_right z, List.take_of_length_le (Nat.le_refl _), List.take_of_length_le z]
theorem cut_lo {α : Type} {q : List α} {v : Int} (h : 0 ≤ v) : cut q (some v) none = q.drop v.toNat := by
  have e : sIx q.length 0 (some v) = min v.toNat q.length := by
    show (if v < 0 then _ else _) = _
    rw [if_neg (by omega)]
  show ((q.drop (sIx q.length 0 (some v))).take (q.length - sIx q.length 0 (some v))) = _
  rw [e]
  rcases Nat.le_total v.toNat q.length with z | z
  · rw [Nat.min_eq_left z, List.take_of_length_le (by rw [List.length_drop]; omega)]
  · rw [Nat.min_eq_right z, List.drop_of_length_le z, List.drop_of_length_le (Nat.le_refl _)]
    simp
theorem cut_m1 {α : Type} {q : List α} : cut q none (some (-1)) = q.dropLast := by
  have e : sIx q.length q.length (some (-1)) = q.length - 1 := by
    have z : sIx q.length q.length (some (-1)) = ((-1 : Int) + (q.length : Int)).toNat := rfl
    rw [z]
    omega
  show ((q.drop 0).take (sIx q.length q.length (some (-1)) - 0)) = _
  rw [e, List.drop_zero, Nat.sub_zero, List.dropLast_eq_take]
theorem atI_nat {α : Type} {q : List α} {i : Nat} : atI q (i : Int) = q[i]? := by
  unfold atI ixN
  rw [if_pos (by omega)]
  by_cases h : i < q.length
  · rw [if_pos (by omega)]; simp
  · rw [if_neg (by omega), List.getElem?_eq_none (by omega)]; rfl
theorem atI_m1 {α : Type} {q : List α} : atI q (-1) = q.getLast? := by
  unfold atI ixN
  rw [if_neg (by omega)]
  cases q with
  | nil => rfl
  | cons x q =>
    rw [if_pos (by simp only [List.length_cons]; omega), List.getLast?_eq_getElem?]
    simp only [Option.bind_some]
    congr 1
    simp only [List.length_cons]
    omega
def mkEnd (r : R PV) (n : Nat) : R PV := match r with
  | .ok .non M' => .ok (.loc n) M'
  | .exc x M' => .exc x M'
  | _ => .bad
theorem makeF {c : Nat} {g : List PV → Store → R PV} {vs : List PV} {M : Store} : makeV false c g vs M = mkEnd (g (.loc M.length :: vs) (M ++ [.ins c [] []])) M.length := by
  show (match g _ _ with | .ok .non M' => _ | .exc x M' => _ | _ => _) = _
  unfold mkEnd
  cases g (.loc M.length :: vs) (M ++ [.ins c [] []]) with
  | ok v M' => cases v <;> rfl
  | _ => rfl
theorem mkEnd_ok {M' : Store} {n : Nat} : mkEnd (.ok .non M') n = .ok (.loc n) M' := rfl
def mkEndT (r : R PV) (c : Nat) (M : Store) : R PV := match r with
  | .ok .non M' => (match (M'[0]? : Option MO) with
    | some (.ins c' ks ws) => if locFL ws && (c' == c) then .ok (.obj c ks ws) M else .bad
    | _ => .bad)
  | .exc x _ => (match x.f with
    | none => .exc x M
    | some (_, v) => if locF v then .exc x M else .bad)
  | _ => .bad
theorem makeT {c : Nat} {g : List PV → Store → R PV} {vs : List PV} {M : Store} (h : locFL vs = true) : makeV true c g vs M = mkEndT (g (.loc 0 :: vs) [.ins c [] []]) c M := by
  show (if locFL vs then _ else _) = _
  rw [if_pos h]
  unfold mkEndT
  cases g (.loc 0 :: vs) [.ins c [] []] with
  | ok v M' =>
    cases v with
    | non =>
      show (match (M'[0]? : Option MO) with | some (.ins c' ks ws) => _ | _ => _) = (match (M'[0]? : Option MO) with | some (.ins c' ks ws) => _ | _ => _)
      cases (M'[0]? : Option MO) with
      | none => rfl
      | some o => cases o <;> rfl
    | _ => rfl
  | _ => rfl
theorem mkEndT_ok {c : Nat} {ks : List Str} {ws : List PV} {M r : Store} (h : locFL ws = true) : mkEndT (.ok .non (.ins c ks ws :: r)) c M = .ok (.obj c ks ws) M := by
  show (if locFL ws && (c == c) then _ else _) = _
  rw [if_pos (by rw [h]; simp)]
theorem eqB_word {a b : Wo} : eqB (.str a.s) (.str b.s) = decide (a = b) := by simp only [eqB, Wo.s_beq]
theorem in_w3 {w a b c : Wo} {M : Store} : inV (.str w.s) (.tup [.str a.s, .str b.s, .str c.s]) M = some (decide (w = a) || (decide (w = b) || decide (w = c))) := by
  show (if flat (.str w.s) && [PV.str a.s, PV.str b.s, PV.str c.s].all flat then some ([PV.str a.s, PV.str b.s, PV.str c.s].any fun z => eqB z (.str w.s)) else none) = _
  rw [if_pos (show (flat (PV.str w.s) && [PV.str a.s, PV.str b.s, PV.str c.s].all flat) = true from rfl)]
  simp only [List.any_cons, List.any_nil, eqB_word, Bool.or_false, eq_comm (b := w)]
theorem asg_se {s : S} {is : List Nat} {ρ : Sl} {M : Store} : asgS is s.e ρ M = optS (setMany is [.str s.ph.s, ti s.ld, ti s.q, ti s.gn, eH s.hd] ρ) M := rfl
theorem slc_se {s : S} {M : Store} : slcV s.e none (some 4) M = some (.tup [.str s.ph.s, ti s.ld, ti s.q, ti s.gn]) := rfl
theorem locFL_stp {l : List Stp} : locFL (l.map Stp.e) = true := locFL_map locF_stp l
theorem len_t0 {M : Store} : bltV .len [.tup []] M = .ok (.int 0) M := rfl
theorem len_t1 {a : PV} {M : Store} : bltV .len [.tup [a]] M = .ok (.int 1) M := rfl
theorem len_t2 {a b : PV} {M : Store} : bltV .len [.tup [a, b]] M = .ok (.int 2) M := rfl
theorem len_t5 {a b c d e : PV} {M : Store} : bltV .len [.tup [a, b, c, d, e]] M = .ok (.int 5) M := rfl
theorem cast_0 : ((0 : Nat) : Int) = 0 := rfl
theorem cast_1 : ((1 : Nat) : Int) = 1 := rfl
theorem cast_2 : ((2 : Nat) : Int) = 2 := rfl
theorem cast_3 : ((3 : Nat) : Int) = 3 := rfl
theorem cast_5 : ((5 : Nat) : Int) = 5 := rfl
theorem lc_nil {F : PV → Store → Option (Option PV × Store)} {M : Store} : lcEnd (lcLoop F [] [] M) = .ok (.lst []) M := by rfl
theorem ne_nil_nil {M : Store} : cmpV M .ne (.lst []) (.lst []) = some false := by rfl
theorem map_snoc {l : List Int} {p : Int} : l.map PV.int ++ [PV.int p] = (l ++ [p]).map PV.int := by simp
theorem map_app {l k : List Int} : l.map PV.int ++ k.map PV.int = (l ++ k).map PV.int := by simp
end Zk
-- ZkQ
namespace Zk
open PySem
def enqF (q : List Int) (p : Int) : List Int := if q.length < 3 then q ++ [p] else q
def addF (q : List Int) : Option Int → List Int
  | some x => enqF q x
  | none => q
def fstPh (r : Ru) : Wo := if r.n = .after then .deeds else .names
def sndPh (r : Ru) : Wo := if r.n = .after then .names else .deeds
def tkAt (r : Ru) (q : List Int) : Int := if r.o = .last then (q.length : Int) - 1 else 0
def tkP (r : Ru) (q : List Int) : Int := (atI q (tkAt r q)).getD 0
def tkQ (r : Ru) (q : List Int) : List Int := cut q none (some (tkAt r q)) ++ cut q (some (tkAt r q + 1)) none
def leftF (ld gn : List Int) : List Int := ld.filter fun p => !gn.contains p
def nextN (r : Ru) (ld gn : List Int) : Int := if r.c = .back then (atI (leftF ld gn) (-1)).getD 0 else (atI (leftF ld gn) 0).getD 0
theorem tk_at {r : Ru} {q : List Int} (h : q ≠ []) : atI q (tkAt r q) = some (tkP r q) := by
  have : (atI q (tkAt r q)).isSome = true := by
    unfold tkAt atI ixN
    cases q with
    | nil => exact absurd rfl h
    | cons x q =>
      split
      · have e : (0 : Int) ≤ ((x :: q).length : Int) - 1 := by simp only [List.length_cons]; omega
        rw [if_pos e, if_pos (by omega)]
        simp only [Option.bind_some, List.length_cons]
        have : (((q.length + 1 : Nat) : Int) - 1).toNat = q.length := by omega
        rw [this, List.getElem?_eq_getElem (by simp)]
        rfl
      · simp only [Int.le_refl, if_true, List.length_cons]
        rw [if_pos (by omega)]
        rfl
  unfold tkP
  obtain ⟨x, e⟩ := Option.isSome_iff_exists.mp this
  rw [e]
  rfl
section
variable {q ld gn : List Int} {r : Ru}
theorem tkQ_eq (hq : q ≠ []) : tkQ r q = if r.o = .last then q.dropLast else q.tail := by
  have hl : 0 < q.length := List.length_pos_iff.mpr hq
  unfold tkQ tkAt
  by_cases hh : r.o = .last
  · simp only [hh, if_true]
    rw [cut_hi (by omega), cut_lo (by omega)]
    have e1 : ((q.length : Int) - 1).toNat = q.length - 1 := by omega
    have e2 : ((q.length : Int) - 1 + 1).toNat = q.length := by omega
    rw [e1, e2, List.drop_of_length_le (Nat.le_refl _), List.append_nil, List.dropLast_eq_take]
  · simp only [hh, if_false]
    rw [cut_hi (by omega), cut_lo (by omega)]
    simp
theorem tkP_eq (hq : q ≠ []) : tkP r q = if r.o = .last then (q.getLast?).getD 0 else (q.head?).getD 0 := by
  have hl : 0 < q.length := List.length_pos_iff.mpr hq
  unfold tkP tkAt
  by_cases hh : r.o = .last
  · simp only [hh, if_true]
    have e1 : ((q.length : Int) - 1) = ((q.length - 1 : Nat) : Int) := by omega
    rw [e1, atI_nat, List.getLast?_eq_getElem?]
  · simp only [hh, if_false]
    rw [show (0 : Int) = ((0 : Nat) : Int) from rfl, atI_nat]
    simp [List.head?_eq_getElem?]
theorem tkQ_len (hq : q ≠ []) : (tkQ r q).length = q.length - 1 := by
  rw [tkQ_eq hq]
  split <;> simp
theorem leftF_at (hne : leftF ld gn ≠ []) : ∃ x y, atI (leftF ld gn) (-1) = some x ∧ atI (leftF ld gn) 0 = some y := by
  rw [atI_m1, show (0 : Int) = ((0 : Nat) : Int) from rfl, atI_nat]
  cases h : leftF ld gn with
  | nil => exact absurd h hne
  | cons x l => exact ⟨_, _, List.getLast?_cons, rfl⟩
end
def hasD (m : Mo) (p : Int) : Bool := ((atI m.ln p).bind id).isSome
def lnOf (m : Mo) (p : Int) : List Int := ((atI m.ln p).bind id).getD []
def adOf (m : Mo) (p : Int) : Option Int := (atI m.ad p).bind id
def parts (m : Mo) : List Int := rng m.ln.length
def helpS (s : S) : List Stp := if s.hd = some .on ∧ s.ph ≠ .over then [.w .work, .w .stop] else []
def runS (m : Mo) (s : S) : List Stp := ((parts m).filter fun p => !s.ld.contains p).map .ld ++ ((parts m).filter fun p => s.ld.contains p && hasD m p).map .ag
def endS (s : S) : List Stp :=
  (if s.ph = .deeds then (if s.q.isEmpty then [.w .next] else [.w .do_, .w .fail]) else if s.ph = .names then (if s.gn.length < s.ld.length then [.w .empty] else [.w .next]) else []) ++ (if s.ph = .wait ∨ s.ph = .deeds ∨ s.ph = .names then [.w .bell] else [])
def stepsP (m : Mo) (s : S) : List Stp := if s.ph = .run then runS m s ++ helpS s ++ [.w .end_] else helpS s ++ endS s
structure Out where
  s : S
  u : List Int
  l : Bool
  deriving DecidableEq
def didW (m : Mo) (r : Ru) (s : S) : Wo → Out
  | .work => ⟨s, [m.hp.getD 0], false⟩
  | .stop => ⟨{ s with ph := if s.ph = .wait then fstPh r else s.ph, hd := some .off }, [], false⟩
  | .end_ => ⟨{ s with ph := if s.hd = some .on ∧ r.h = .wait then .wait else fstPh r, hd := if s.hd = some .on ∧ r.h = .cut then some .off else s.hd }, [], false⟩
  | .do_ => ⟨{ s with q := addF (tkQ r s.q) (adOf m (tkP r s.q)) }, lnOf m (tkP r s.q), false⟩
  | .fail => ⟨{ s with q := if r.e = .drop then [] else tkQ r s.q }, [], decide (r.e = .drop) && !(tkQ r s.q).isEmpty⟩
  | .empty => ⟨{ s with gn := srtI (s.gn ++ [nextN r s.ld s.gn]) }, [], false⟩
  | .next => ⟨{ s with ph := if s.ph = fstPh r then sndPh r else .over }, [], false⟩
  | _ => ⟨{ s with ph := .over }, [], !s.q.isEmpty⟩
def didP (m : Mo) (r : Ru) (s : S) : Stp → Out
  | .ld p => ⟨{ s with ld := s.ld ++ [p], q := if hasD m p then enqF s.q p else s.q, hd := if m.hp = some p then some .on else s.hd }, [], false⟩
  | .ag p => ⟨{ s with q := enqF s.q p }, [], false⟩
  | .w x => didW m r s x
structure Mo.Ok (m : Mo) : Prop where
  l1 : 1 ≤ m.ln.length
  l3 : m.ln.length ≤ 3
  la : m.ad.length = m.ln.length
  lns : ∀ l, some l ∈ m.ln → l.length ≤ 3 ∧ (∀ p ∈ l, 0 ≤ p ∧ p < m.ln.length) ∧ l.Pairwise (· < ·)
  ads : ∀ (i : Nat) x, m.ad[i]? = some (some x) → (∃ l, m.ln[i]? = some (some l)) ∧ 0 ≤ x ∧ hasD m x = true
  hp : ∀ x, m.hp = some x → 0 ≤ x ∧ x < m.ln.length
def PhOk (w : Wo) : Prop := w = .run ∨ w = .wait ∨ w = .deeds ∨ w = .names ∨ w = .over
def HdOk (o : Option Wo) : Prop := o = none ∨ o = some .new ∨ o = some .on ∨ o = some .off
structure S.Ok (m : Mo) (s : S) : Prop where
  ph : PhOk s.ph
  ldn : s.ld.Nodup
  ldp : ∀ p ∈ s.ld, 0 ≤ p ∧ p < m.ln.length
  q3 : s.q.length ≤ 3
  qd : ∀ p ∈ s.q, 0 ≤ p ∧ hasD m p = true
  gnn : s.gn.Nodup
  gnl : ∀ p ∈ s.gn, p ∈ s.ld
  hn : s.hd = none ↔ m.hp = none
  hw : HdOk s.hd
theorem mem_rng {n : Nat} {p : Int} : p ∈ rng n ↔ 0 ≤ p ∧ p < n := by
  unfold rng
  simp only [List.mem_map, List.mem_range]
  constructor
  · rintro ⟨a, h, rfl⟩
    exact ⟨Int.natCast_nonneg a, by show (a : Int) < n; omega⟩
  · rintro ⟨h1, h2⟩
    exact ⟨p.toNat, by omega, by show (p.toNat : Int) = p; omega⟩
theorem rng_len {n : Nat} : (rng n).length = n := by simp [rng]
section
variable {m : Mo} {s : S} {r : Ru} {p : Int}
theorem S.Ok.l3 (h : s.Ok m) (hm : m.Ok) : s.ld.length ≤ 3 := by
  have := h.ldn.length_le_of_subset (l₂ := rng m.ln.length) fun p hp => mem_rng.mpr (h.ldp p hp)
  rw [rng_len] at this
  have := hm.l3
  omega
theorem S.Ok.g3 (h : s.Ok m) (hm : m.Ok) : s.gn.length ≤ 3 := by
  have := h.gnn.length_le_of_subset (l₂ := s.ld) fun p hp => h.gnl p hp
  have := h.l3 hm
  omega
theorem hasD_some (h : hasD m p = true) : atI m.ln p = some (some (lnOf m p)) := by
  unfold hasD at h
  unfold lnOf
  cases e : atI m.ln p with
  | none => rw [e] at h; cases h
  | some o =>
    cases o with
    | none => rw [e] at h; cases h
    | some l => rfl
theorem atI_lt {α : Type} {l : List α} {x : α} (h : atI l p = some x) (h0 : 0 ≤ p) : p < l.length := by
  have e : p = ((p.toNat : Nat) : Int) := by omega
  rw [e, atI_nat] at h
  have := (List.getElem?_eq_some_iff.mp h).1
  omega
theorem atI_of {α : Type} {l : List α} (h0 : 0 ≤ p) (h1 : p < l.length) : ∃ x, atI l p = some x := by
  have e : p = ((p.toNat : Nat) : Int) := by omega
  rw [e, atI_nat]
  exact ⟨_, List.getElem?_eq_getElem (by omega)⟩
theorem tkP_mem {q : List Int} (h : q ≠ []) : tkP r q ∈ q := by
  have e := tk_at (r := r) h
  unfold atI at e
  cases z : ixN q.length (tkAt r q) with
  | none => rw [z] at e; cases e
  | some j => rw [z] at e; exact List.mem_of_getElem? e
theorem ad_some (hm : m.Ok) (h0 : 0 ≤ p) (h : hasD m p = true) : atI m.ad p = some (adOf m p) := by
  have h1 := atI_lt (hasD_some h) h0
  obtain ⟨x, e⟩ := atI_of (l := m.ad) h0 (by rw [hm.la]; exact h1)
  unfold adOf
  rw [e]
  rfl
theorem left_iff (h : s.Ok m) : leftF s.ld s.gn ≠ [] ↔ s.gn.length < s.ld.length := by
  constructor
  · intro z
    apply Classical.byContradiction
    intro y
    apply z
    unfold leftF
    rw [List.filter_eq_nil_iff]
    intro p hp
    simp only [Bool.not_eq_true', Bool.not_eq_false, List.contains_iff_mem]
    apply Classical.byContradiction
    intro w
    have : (p :: s.gn).length ≤ s.ld.length := List.Nodup.length_le_of_subset (List.nodup_cons.mpr ⟨by simpa using w, h.gnn⟩) fun x hx => by
      rcases List.mem_cons.mp hx with rfl | hx
      · exact hp
      · exact h.gnl x hx
    simp only [List.length_cons] at this
    omega
  · intro z y
    unfold leftF at y
    rw [List.filter_eq_nil_iff] at y
    have : s.ld.length ≤ s.gn.length := h.ldn.length_le_of_subset fun x hx => by
      have := y x hx
      simpa using this
    omega
end
theorem eqB_tup {xs ys : List PV} : eqB (.tup xs) (.tup ys) = eqBL xs ys := by simp only [eqB]
theorem eqB_lst {xs ys : List PV} : eqB (.lst xs) (.lst ys) = eqBL xs ys := by simp only [eqB]
theorem eqBL_cons {x y : PV} {xs ys : List PV} : eqBL (x :: xs) (y :: ys) = (eqB x y && eqBL xs ys) := by simp only [eqBL]
theorem eqBL_nil : eqBL [] [] = true := by simp only [eqBL]
theorem eqBL_nc {y : PV} {ys : List PV} : eqBL [] (y :: ys) = false := by simp only [eqBL]
theorem eqBL_cn {y : PV} {ys : List PV} : eqBL (y :: ys) [] = false := by simp only [eqBL]
theorem eqBL_map {α : Type} [DecidableEq α] {f : α → PV} (h : ∀ a b, eqB (f a) (f b) = decide (a = b)) : ∀ l k : List α, eqBL (l.map f) (k.map f) = decide (l = k)
  | [], [] => by simp [eqBL]
  | [], y :: k => by simp [eqBL]
  | x :: l, [] => by simp [eqBL]
  | x :: l, y :: k => by
    simp only [List.map_cons, eqBL_cons, h, eqBL_map h l k, List.cons.injEq, Bool.decide_and]
theorem eqB_ti {l k : List Int} : eqB (.tup (l.map PV.int)) (.tup (k.map PV.int)) = decide (l = k) := by
  rw [eqB_tup]; exact eqBL_map (fun a b => eqB_int) l k
theorem eqB_stp (a b : Stp) : eqB a.e b.e = decide (a = b) := by
  cases a <;> cases b <;> simp only [Stp.e, eqB_tup, eqBL_cons, eqBL_nil, eqBL_nc, eqBL_cn, eqB_word, eqB_int, decide_true, Bool.and_true, Bool.true_and, Bool.and_false, reduceCtorEq, decide_false, Bool.false_and, Stp.ld.injEq, Stp.ag.injEq, Stp.w.injEq]
theorem eqB_eH (a b : Option Wo) : eqB (eH a) (eH b) = decide (a = b) := by
  cases a <;> cases b <;> simp [eH, eqB, Wo.s_beq]
theorem eqB_S (a b : S) : eqB a.e b.e = decide (a = b) := by
  obtain ⟨a1, a2, a3, a4, a5⟩ := a
  obtain ⟨b1, b2, b3, b4, b5⟩ := b
  simp only [S.e, eqB_tup, eqBL_cons, eqBL_nil, eqB_word, eqBL_map (fun a b => eqB_int), eqB_eH, Bool.and_true, S.mk.injEq, Bool.decide_and]
theorem okDL_map {α : Type} {f : α → PV} (h : ∀ a, okD (f a) = true) : ∀ l : List α, okDL (l.map f) = true
  | [] => rfl
  | x :: l => by simp only [List.map_cons, okDL, h, okDL_map h l, Bool.and_self]
theorem depL_map {α : Type} {f : α → PV} {n : Nat} (h : ∀ a, dep (f a) ≤ n) : ∀ l : List α, depL (l.map f) ≤ n
  | [] => by simp [depL]
  | x :: l => by
    simp only [List.map_cons, depL]
    exact Nat.max_le.mpr ⟨h x, depL_map h l⟩
theorem okD_stp (s : Stp) : okD s.e = true := by cases s <;> simp [Stp.e, okD, okDL, Wo.good]
theorem dep_stp (s : Stp) : dep s.e ≤ 1 := by cases s <;> simp [Stp.e, dep, depL]
theorem shp_stp (s : Stp) : shp s.e = true := by
  have := dep_stp s
  simp only [shp, okD_stp, Bool.true_and, decide_eq_true_eq]; omega
theorem shp_stps (l : List Stp) : shp (.lst (l.map Stp.e)) = true := by
  have := depL_map dep_stp l
  have e : okD (.lst (l.map Stp.e)) = true := by simp only [okD, okDL_map okD_stp]
  have e2 : dep (.lst (l.map Stp.e)) ≤ 60 := by simp only [dep]; omega
  unfold shp
  rw [e, Bool.true_and]
  exact decide_eq_true e2
theorem okD_S (s : S) : okD s.e = true := by
  have : okD (eH s.hd) = true := by cases s.hd <;> simp [eH, okD, Wo.good]
  simp only [S.e, okD, okDL, Wo.good, okDL_ints, this, Bool.and_self]
theorem dep_S (s : S) : dep s.e ≤ 2 := by
  have : dep (eH s.hd) = 0 := by cases s.hd <;> simp [eH, dep]
  simp [S.e, dep, depL, depL_ints, this]
theorem any_stp (l : List Stp) (s : Stp) : ((l.map Stp.e).any fun z => eqB z s.e) = l.contains s := by
  induction l with
  | nil => rfl
  | cons x l ih =>
    simp only [List.map_cons, List.any_cons, ih, eqB_stp, List.contains_cons]
    congr 1
    exact decide_eq_decide.mpr eq_comm
theorem in_stps {l : List Stp} {s : Stp} {M : Store} : inV s.e (.lst (l.map Stp.e)) M = some (l.contains s) := by
  show (if shp s.e && shp (.lst (l.map Stp.e)) then some ((l.map Stp.e).any fun z => eqB z s.e) else none) = _
  rw [shp_stp, shp_stps, any_stp]
  rfl
theorem ne_ti {l k : List Int} {M : Store} : cmpV M .ne (.tup (l.map PV.int)) (.tup (k.map PV.int)) = some (!decide (l = k)) := by
  simp only [cmpV, thaw_tup_q, shp_ti, Bool.and_self, if_true, eqB_ti]
theorem eq_ti {l k : List Int} {M : Store} : cmpV M .eq (.tup (l.map PV.int)) (.tup (k.map PV.int)) = some (decide (l = k)) := by
  simp only [cmpV, thaw_tup_q, shp_ti, Bool.and_self, if_true, eqB_ti]
/-- the wishes that are broken -/
def mkE (a b : Bool) : PV := .dct false ((if a then [.str Wo.uses.s] else []) ++ (if b then [.str Wo.lost.s] else [])) ((if a then [.bl true] else []) ++ (if b then [.bl true] else []))
def usesB (s : S) (u : List Int) : Bool := u.any fun p => !s.ld.contains p || s.gn.contains p
theorem dne_mk {a b c d : Bool} : dneV (mkE a b) (mkE c d) = some (!(a == c && b == d)) := by
  cases a <;> cases b <;> cases c <;> cases d <;> decide +kernel
theorem locF_mk {a b : Bool} : locF (mkE a b) = true := by cases a <;> cases b <;> rfl
abbrev SS2 := S × S
def pe (p : S × S) : PV := .tup [p.1.e, p.2.e]
def anyP (m : Mo) (p : S × S) : List Stp := stepsP m p.1 ++ (stepsP m p.2).filter fun st => !(stepsP m p.1).contains st
def bothP (m : Mo) (r1 r2 : Ru) (p : S × S) (st : Stp) : Option (S × S) :=
  if (stepsP m p.1).contains st && (stepsP m p.2).contains st then
    (if (didP m r1 p.1 st).u = (didP m r2 p.2 st).u ∧ usesB p.1 (didP m r1 p.1 st).u = usesB p.2 (didP m r2 p.2 st).u ∧ (didP m r1 p.1 st).l = (didP m r2 p.2 st).l then some ((didP m r1 p.1 st).s, (didP m r2 p.2 st).s) else none)
  else none
def eP : Option (S × S) → PV
  | none => .non
  | some p => pe p
theorem locF_pe (p : S × S) : locF (pe p) = true := by simp only [pe, locF, locFL, locF_e, Bool.and_self]
theorem locF_eP (p : Option (S × S)) : locF (eP p) = true := by
  cases p with
  | none => rfl
  | some p => exact locF_pe p
theorem isNV_eP {p : Option (S × S)} : isNV (eP p) = some p.isNone := by cases p <;> rfl
theorem pe_0 {p : S × S} {M : Store} : subV (pe p) (.int 0) M = some p.1.e := rfl
theorem pe_1 {p : S × S} {M : Store} : subV (pe p) (.int 1) M = some p.2.e := rfl
theorem any_bl' {α : Type} {g : α → Bool} {l : List α} {M : Store} : bltV .any [.lst (l.map fun x => PV.bl (g x))] M = .ok (.bl (l.any g)) M := any_bl
section
variable {m : Mo} {M : Store} {l k : List Int} {p : Int} {w : Wo}
theorem mm_0 : subV m.m (.int 0) M = some (.tup (m.ln.map eL)) := rfl
theorem mm_1 : subV m.m (.int 1) M = some (.tup (m.ad.map eI)) := rfl
theorem mm_2 : subV m.m (.int 2) M = some (eI m.hp) := rfl
theorem st_ld0 : subV (Stp.ld p).e (.int 0) M = some (.str Wo.load.s) := rfl
theorem st_ld1 : subV (Stp.ld p).e (.int 1) M = some (.int p) := rfl
theorem st_ag0 : subV (Stp.ag p).e (.int 0) M = some (.str Wo.again.s) := rfl
theorem st_ag1 : subV (Stp.ag p).e (.int 1) M = some (.int p) := rfl
theorem st_w0 : subV (Stp.w w).e (.int 0) M = some (.str w.s) := rfl
theorem ne_li_nil : cmpV M .ne (.lst (l.map PV.int)) (.lst []) = some (!l.isEmpty) := by
  have h : shp (.lst (l.map PV.int)) = true := by simp [shp, okD, dep, okDL_ints, depL_ints]
  have h2 : shp (.lst []) = true := rfl
  have e : eqB (.lst (l.map PV.int)) (.lst []) = l.isEmpty := by cases l <;> simp [eqB, eqBL]
  simp only [cmpV, thaw_lst, h, h2, Bool.and_self, if_true, e]
/-- the wishes that are broken, in a list -/
def mkL (a b : Bool) : PV := .lst ((if a then [.str Wo.uses.s] else []) ++ (if b then [.str Wo.lost.s] else []))
theorem eq_um {u v : List Int} {a b c d : Bool} : cmpV M .eq (.tup [.tup (u.map PV.int), mkL a b]) (.tup [.tup (v.map PV.int), mkL c d]) = some (decide (u = v) && (a == c && b == d)) := by
  have h : ∀ (u : List Int) (a b : Bool), shp (.tup [.tup (u.map PV.int), mkL a b]) = true := fun u a b => by
    cases a <;> cases b <;> simp [shp, mkL, okD, okDL, dep, depL, okDL_ints, depL_ints, Wo.good]
  simp only [cmpV, thaw_tup_q, h, Bool.and_self, if_true, eqB_tup, eqBL_cons, eqBL_nil, Bool.and_true, eqBL_map (fun a b => eqB_int), Option.some.injEq]
  congr 1
  cases a <;> cases b <;> cases c <;> cases d <;> simp [mkL, eqB, eqBL, Wo.s_beq]
theorem locF_mkL {a b : Bool} : locF (mkL a b) = true := by cases a <;> cases b <;> rfl
end
section
variable {r : Ru} {q : List Int}
theorem tk_l (h : r.o = .last) (hq : q ≠ []) : atI q (-1) = some (tkP r q) ∧ cut q none (some (-1)) = tkQ r q := by
  rw [tkQ_eq hq, tkP_eq hq, if_pos h, if_pos h, cut_m1, atI_m1]
  refine ⟨?_, rfl⟩
  cases q with
  | nil => exact absurd rfl hq
  | cons x q => rw [List.getLast?_cons]; rfl
theorem tk_f (h : ¬ r.o = .last) (hq : q ≠ []) : atI q 0 = some (tkP r q) ∧ cut q (some 1) none = tkQ r q := by
  rw [tkQ_eq hq, tkP_eq hq, if_neg h, if_neg h, cut_lo (by omega), show (0 : Int) = ((0 : Nat) : Int) from rfl, atI_nat]
  cases q with
  | nil => exact absurd rfl hq
  | cons x q => exact ⟨rfl, rfl⟩
end
theorem ok_word_ite {c : Prop} [Decidable c] {a b : Wo} {M : Store} : (if c then R.ok (PV.str a.s) M else R.ok (PV.str b.s) M) = R.ok (PV.str (Wo.s (if c then a else b))) M := by split <;> rfl
theorem fst_fold {r : Ru} : (if r.n = Wo.after then Wo.deeds else Wo.names) = fstPh r := by rfl
end Zk
-- ZkQ2
namespace Zk
open PySem
section
variable {m : Mo} {s : S} {r : Ru} {st : Stp}
inductive Can (m : Mo) (s : S) : Stp → Prop
  | ld (p : Int) (h1 : p ∈ parts m) (h2 : p ∉ s.ld) (h3 : s.ph = .run) : Can m s (.ld p)
  | ag (p : Int) (h1 : p ∈ parts m) (h2 : p ∈ s.ld) (h3 : hasD m p = true) : Can m s (.ag p)
  | work (h : s.hd = some .on) : Can m s (.w .work)
  | stop (h : s.hd = some .on) : Can m s (.w .stop)
  | end_ : Can m s (.w .end_)
  | do_ (h : s.q ≠ []) : Can m s (.w .do_)
  | fail (h : s.q ≠ []) : Can m s (.w .fail)
  | empty (h : s.gn.length < s.ld.length) : Can m s (.w .empty)
  | next : Can m s (.w .next)
  | bell : Can m s (.w .bell)
theorem can_of (h : st ∈ stepsP m s) : Can m s st := by
  unfold stepsP runS helpS endS at h
  split at h
  · rename_i hr
    simp only [List.mem_append, List.mem_map, List.mem_singleton, List.mem_filter] at h
    rcases h with ((⟨x, ⟨h1, h3⟩, h2⟩ | ⟨x, ⟨h1, h3⟩, h2⟩) | h2) | h2
    · subst h2
      exact .ld x h1 (by simpa using h3) hr
    · subst h2
      simp only [Bool.and_eq_true, List.contains_iff_mem] at h3
      exact .ag x h1 h3.1 h3.2
    · split at h2
      · rename_i z
        simp only [List.mem_cons, List.not_mem_nil, or_false] at h2
        rcases h2 with rfl | rfl
        · exact .work z.1
        · exact .stop z.1
      · simp at h2
    · subst h2; exact .end_
  · simp only [List.mem_append] at h
    rcases h with h | h | h
    · split at h
      · rename_i z
        simp only [List.mem_cons, List.not_mem_nil, or_false] at h
        rcases h with rfl | rfl
        · exact .work z.1
        · exact .stop z.1
      · simp at h
    · split at h
      · split at h
        · simp only [List.mem_singleton] at h; subst h; exact .next
        · rename_i z
          have hq : s.q ≠ [] := fun y => z (by rw [y]; rfl)
          simp only [List.mem_cons, List.not_mem_nil, or_false] at h
          rcases h with rfl | rfl
          · exact .do_ hq
          · exact .fail hq
      · split at h
        · split at h
          · rename_i z
            simp only [List.mem_singleton] at h; subst h; exact .empty z
          · simp only [List.mem_singleton] at h; subst h; exact .next
        · simp at h
    · split at h
      · simp only [List.mem_singleton] at h; subst h; exact .bell
      · simp at h
theorem ins1_perm_q (i : Int) : ∀ l : List Int, (ins1 i l).Perm (i :: l)
  | [] => .refl _
  | j :: l => by
    unfold ins1
    split
    · exact .refl _
    · exact ((ins1_perm_q i l).cons j).trans (.swap i j l)
theorem srtI_perm_q : ∀ l : List Int, (srtI l).Perm l
  | [] => .refl _
  | i :: l => (ins1_perm_q i (srtI l)).trans ((srtI_perm_q l).cons i)
theorem enqF_len {q : List Int} {p : Int} (h : q.length ≤ 3) : (enqF q p).length ≤ 3 := by
  unfold enqF
  split
  · simp; omega
  · exact h
theorem enqF_mem {q : List Int} {p x : Int} (h : x ∈ enqF q p) : x ∈ q ∨ x = p := by
  unfold enqF at h
  split at h
  · simpa using h
  · exact .inl h
theorem tkQ_mem {q : List Int} {x : Int} (hq : q ≠ []) (h : x ∈ tkQ r q) : x ∈ q := by
  rw [tkQ_eq hq] at h
  split at h
  · exact List.dropLast_subset _ h
  · exact List.mem_of_mem_tail h
theorem fstPh_or : fstPh r = .deeds ∨ fstPh r = .names := by unfold fstPh; split <;> simp
theorem sndPh_or : sndPh r = .deeds ∨ sndPh r = .names := by unfold sndPh; split <;> simp
theorem nextN_mem {ld gn : List Int} (hne : leftF ld gn ≠ []) : nextN r ld gn ∈ ld ∧ nextN r ld gn ∉ gn := by
  obtain ⟨x, y, e1, e2⟩ := leftF_at hne
  have key : ∀ z, z ∈ leftF ld gn → z ∈ ld ∧ z ∉ gn := fun z hz => by
    unfold leftF at hz
    simpa using List.mem_filter.mp hz
  have en : nextN r ld gn = if r.c = .back then x else y := by unfold nextN; rw [e1, e2]; rfl
  rw [en]
  rw [atI_m1] at e1
  rw [show (0 : Int) = ((0 : Nat) : Int) from rfl, atI_nat] at e2
  split
  · exact key _ (List.mem_of_getLast? e1)
  · exact key _ (List.mem_of_getElem? e2)
theorem did_ok (hm : m.Ok) (hs : s.Ok m) (h : st ∈ stepsP m s) : S.Ok m (didP m r s st).s := by
  obtain ⟨ph, ldn, ldp, q3, qd, gnn, gnl, hn, hw⟩ := hs
  have hs : s.Ok m := ⟨ph, ldn, ldp, q3, qd, gnn, gnl, hn, hw⟩
  cases can_of h with
  | ld p h1 h2 h3 =>
    refine ⟨ph, ?_, ?_, ?_, ?_, gnn, ?_, ?_, ?_⟩
    · show (s.ld ++ [p]).Nodup
      rw [List.nodup_append]
      exact ⟨ldn, by simp, fun a ha b hb => by simp at hb; subst hb; intro e; subst e; exact h2 ha⟩
    · intro x hx
      have hx : x ∈ s.ld ++ [p] := hx
      rcases List.mem_append.mp hx with hx | hx
      · exact ldp x hx
      · simp at hx; subst hx; exact mem_rng.mp h1
    · show (if hasD m p then enqF s.q p else s.q).length ≤ 3
      split
      · exact enqF_len q3
      · exact q3
    · intro x hx
      have hx : x ∈ (if hasD m p then enqF s.q p else s.q) := hx
      split at hx
      · rename_i hd
        rcases enqF_mem hx with hx | hx
        · exact qd x hx
        · subst hx; exact ⟨(mem_rng.mp h1).1, hd⟩
      · exact qd x hx
    · intro x hx
      exact List.mem_append_left _ (gnl x hx)
    · show (if m.hp = some p then some Wo.on else s.hd) = none ↔ m.hp = none
      split
      · rename_i z; rw [z]; simp
      · exact hn
    · show HdOk (if m.hp = some p then some Wo.on else s.hd)
      split
      · simp [HdOk]
      · exact hw
  | ag p h1 h2 h3 =>
    refine ⟨ph, ldn, ldp, enqF_len q3, fun x hx => ?_, gnn, gnl, hn, hw⟩
    rcases enqF_mem hx with hx | hx
    · exact qd x hx
    · subst hx; exact ⟨(mem_rng.mp h1).1, h3⟩
  | work h => exact hs
  | stop h' =>
    refine ⟨?_, ldn, ldp, q3, qd, gnn, gnl, ?_, .inr (.inr (.inr rfl))⟩
    · show PhOk (if s.ph = .wait then fstPh r else s.ph)
      split
      · rcases fstPh_or (r := r) with e | e <;> simp [e, PhOk]
      · exact ph
    · show some Wo.off = none ↔ m.hp = none
      constructor
      · intro z; cases z
      · intro z; rw [hn.mpr z] at h'; cases h'
  | end_ =>
    refine ⟨?_, ldn, ldp, q3, qd, gnn, gnl, ?_, ?_⟩
    · show PhOk (if s.hd = some .on ∧ r.h = .wait then Wo.wait else fstPh r)
      split
      · simp [PhOk]
      · rcases fstPh_or (r := r) with e | e <;> simp [e, PhOk]
    · show (if s.hd = some .on ∧ r.h = .cut then some Wo.off else s.hd) = none ↔ m.hp = none
      split
      · rename_i z
        constructor
        · intro y; cases y
        · intro y; rw [hn.mpr y] at z; cases z.1
      · exact hn
    · show HdOk (if s.hd = some .on ∧ r.h = .cut then some Wo.off else s.hd)
      split
      · simp [HdOk]
      · exact hw
  | do_ hq =>
    have hl := tkQ_len (r := r) hq
    have hd := qd _ (tkP_mem (r := r) hq)
    have key : ∀ y, adOf m (tkP r s.q) = some y → 0 ≤ y ∧ hasD m y = true := fun y hy => by
      have e := ad_some hm hd.1 hd.2
      rw [hy] at e
      have e2 : tkP r s.q = ((tkP r s.q).toNat : Int) := by omega
      rw [e2, atI_nat] at e
      exact (hm.ads _ _ e).2
    refine ⟨ph, ldn, ldp, ?_, fun x hx => ?_, gnn, gnl, hn, hw⟩
    · show (addF (tkQ r s.q) (adOf m (tkP r s.q))).length ≤ 3
      cases adOf m (tkP r s.q) with
      | none => show (tkQ r s.q).length ≤ 3; omega
      | some y => exact enqF_len (by omega)
    · have hx : x ∈ addF (tkQ r s.q) (adOf m (tkP r s.q)) := hx
      cases e : adOf m (tkP r s.q) with
      | none => rw [e] at hx; exact qd x (tkQ_mem hq hx)
      | some y =>
        rw [e] at hx
        rcases enqF_mem hx with hx | hx
        · exact qd x (tkQ_mem hq hx)
        · subst hx; exact key x e
  | fail hq =>
    have hl := tkQ_len (r := r) hq
    refine ⟨ph, ldn, ldp, ?_, fun x hx => ?_, gnn, gnl, hn, hw⟩
    · show (if r.e = .drop then [] else tkQ r s.q).length ≤ 3
      split
      · simp
      · omega
    · have hx : x ∈ (if r.e = .drop then [] else tkQ r s.q) := hx
      split at hx
      · simp at hx
      · exact qd x (tkQ_mem hq hx)
  | empty hg =>
    have hne := (left_iff hs).mpr hg
    have hx := nextN_mem (r := r) hne
    refine ⟨ph, ldn, ldp, q3, qd, ?_, fun x hx' => ?_, hn, hw⟩
    · show (srtI (s.gn ++ [nextN r s.ld s.gn])).Nodup
      refine (srtI_perm_q _).nodup_iff.mpr ?_
      rw [List.nodup_append]
      exact ⟨gnn, by simp, fun a ha b hb => by simp at hb; subst hb; intro e; subst e; exact hx.2 ha⟩
    · have hx' : x ∈ srtI (s.gn ++ [nextN r s.ld s.gn]) := hx'
      have := (srtI_perm_q _).mem_iff.mp hx'
      rcases List.mem_append.mp this with y | y
      · exact gnl x y
      · simp at y; subst y; exact hx.1
  | next =>
    refine ⟨?_, ldn, ldp, q3, qd, gnn, gnl, hn, hw⟩
    show PhOk (if s.ph = fstPh r then sndPh r else .over)
    split
    · rcases sndPh_or (r := r) with e | e <;> simp [e, PhOk]
    · simp [PhOk]
  | bell => exact ⟨by simp [didP, didW, PhOk], ldn, ldp, q3, qd, gnn, gnl, hn, hw⟩
theorem did_u (hm : m.Ok) (h : st ∈ stepsP m s) : (didP m r s st).u.length ≤ 3 := by
  cases can_of h with
  | do_ hq =>
    show (lnOf m (tkP r s.q)).length ≤ 3
    unfold lnOf
    cases e : atI m.ln (tkP r s.q) with
    | none => simp
    | some o =>
      cases o with
      | none => simp
      | some l =>
        have : some l ∈ m.ln := by
          unfold atI at e
          cases z : ixN m.ln.length (tkP r s.q) with
          | none => rw [z] at e; cases e
          | some j => rw [z] at e; exact List.mem_of_getElem? e
        exact (hm.lns l this).1
  | _ => simp [didP, didW]
def s0 (m : Mo) : S := ⟨.run, [], [], [], if m.hp = none then none else some .new⟩
theorem s0_ok : (s0 m).Ok m := by
  refine ⟨.inl rfl, by simp [s0], by simp [s0], by simp [s0], by simp [s0], by simp [s0], by simp [s0], ?_, ?_⟩
  · show (if m.hp = none then none else some Wo.new) = none ↔ m.hp = none
    split <;> simp_all
  · show HdOk (if m.hp = none then none else some Wo.new)
    split <;> simp [HdOk]
/-- a pair of good states -/
def POk (m : Mo) (p : S × S) : Prop := p.1.Ok m ∧ p.2.Ok m
theorem both_ok {r1 r2 : Ru} {p p' : S × S} (hm : m.Ok) (hp : POk m p) (h : bothP m r1 r2 p st = some p') : POk m p' := by
  unfold bothP at h
  split at h
  · rename_i z
    simp only [Bool.and_eq_true, List.contains_iff_mem] at z
    split at h
    · injection h with h
      subst h
      exact ⟨did_ok hm hp.1 z.1, did_ok hm hp.2 z.2⟩
    · cases h
  · cases h
end
structure Ru.Ok (r : Ru) : Prop where
  o : r.o = .last ∨ r.o = .first
  n : r.n = .after ∨ r.n = .before
  c : r.c = .back ∨ r.c = .along
  h : r.h = .wait ∨ r.h = .cut ∨ r.h = .free
  e : r.e = .onward ∨ r.e = .drop
theorem in_w2 {w a b : Wo} {M : Store} : inV (.str w.s) (.tup [.str a.s, .str b.s]) M = some (decide (w = a) || decide (w = b)) := by
  show (if flat (.str w.s) && [PV.str a.s, PV.str b.s].all flat then some ([PV.str a.s, PV.str b.s].any fun z => eqB z (.str w.s)) else none) = _
  rw [if_pos (show (flat (PV.str w.s) && [PV.str a.s, PV.str b.s].all flat) = true from rfl)]
  simp only [List.any_cons, List.any_nil, eqB_word, Bool.or_false, eq_comm (b := w)]
end Zk
-- ZkB
namespace Zk
open PySem
section
variable {α : Type} [BEq α] [LawfulBEq α] {f : α → PV}
theorem dget_at (hf : ∀ a b, eqB (f a) (f b) = (a == b)) : ∀ {l : List α} {vs : List PV} {k : Nat} {a : α}, l.Nodup → l[k]? = some a → l.length = vs.length → dget (f a) (l.map f) vs = vs[k]?
  | [], _, k, a, _, h, _ => by simp at h
  | x :: l, [], _, _, _, _, h => by simp at h
  | x :: l, v :: vs, 0, a, _, h, _ => by
    simp at h; subst h
    simp only [List.map_cons, dget, hf, beq_self_eq_true, if_true, List.getElem?_cons_zero]
  | x :: l, v :: vs, k + 1, a, hn, h, hl => by
    rw [List.nodup_cons] at hn
    have ha : a ∈ l := List.mem_of_getElem? (by simpa using h)
    have hx : (x == a) = false := beq_eq_false_iff_ne.mpr fun e => hn.1 (e ▸ ha)
    simp only [List.map_cons, dget, hf, hx, Bool.false_eq_true, if_false, List.getElem?_cons_succ]
    exact dget_at hf hn.2 (by simpa using h) (by simpa using hl)
theorem dget_some (hf : ∀ a b, eqB (f a) (f b) = (a == b)) {a : α} : ∀ {l : List α} {vs : List PV}, l.length = vs.length → (dget (f a) (l.map f) vs).isSome = l.contains a
  | [], vs, _ => by cases vs <;> rfl
  | x :: l, [], h => by simp at h
  | x :: l, v :: vs, h => by
    simp only [List.map_cons, dget, hf, List.contains_cons]
    rw [show (a == x) = (x == a) from BEq.comm]
    cases e : x == a with
    | true => simp
    | false =>
      simp only [Bool.false_eq_true, if_false, Bool.false_or]
      exact dget_some hf (by simpa using h)
theorem any_map (hf : ∀ a b, eqB (f a) (f b) = (a == b)) {a : α} : ∀ l : List α, ((l.map f).any fun x => eqB x (f a)) = l.contains a
  | [] => rfl
  | x :: l => by
    simp only [List.map_cons, List.any_cons, hf, any_map hf l, List.contains_cons]
    rw [show (a == x) = (x == a) from BEq.comm]
theorem dput_new (hf : ∀ a b, eqB (f a) (f b) = (a == b)) {l : List α} {vs : List PV} {a : α} {v : PV} (h : l.contains a = false) : dput (f a) v (l.map f) vs = ((l ++ [a]).map f, vs ++ [v]) := by
  unfold dput
  rw [any_map hf, h]
  simp
theorem repl_same (hf : ∀ a b, eqB (f a) (f b) = (a == b)) {a : α} {v : PV} : ∀ l : List α, repl (f a) v (l.map f) (l.map fun _ => v) = l.map fun _ => v
  | [] => rfl
  | x :: l => by
    simp only [List.map_cons, repl, repl_same hf l]
    split <;> rfl
theorem dput_same (hf : ∀ a b, eqB (f a) (f b) = (a == b)) {l : List α} {a : α} {v : PV} : dput (f a) v (l.map f) (l.map fun _ => v) = if l.contains a then (l.map f, l.map fun _ => v) else ((l ++ [a]).map f, (l ++ [a]).map fun _ => v) := by
  unfold dput
  rw [any_map hf]
  cases l.contains a with
  | true => simp only [if_true, repl_same hf]
  | false => simp
/-- each once, in the order of their first places -/
def dedF (acc : List α) : List α → List α
  | [] => acc
  | x :: l => dedF (if acc.contains x then acc else acc ++ [x]) l
def ded (l : List α) : List α := dedF [] l
theorem mem_dedF : ∀ {l acc : List α} {x : α}, x ∈ dedF acc l ↔ x ∈ acc ∨ x ∈ l
  | [], acc, x => by simp [dedF]
  | y :: l, acc, x => by
    unfold dedF
    rw [mem_dedF]
    split
    · rename_i h
      have hy : y ∈ acc := List.contains_iff_mem.mp h
      constructor
      · rintro (z | z)
        · exact .inl z
        · exact .inr (List.mem_cons_of_mem _ z)
      · rintro (z | z)
        · exact .inl z
        · rcases List.mem_cons.mp z with rfl | z
          · exact .inl hy
          · exact .inr z
    · simp [or_assoc]
theorem mem_ded {l : List α} {x : α} : x ∈ ded l ↔ x ∈ l := by simp [ded, mem_dedF]
theorem dedF_nodup : ∀ {l acc : List α}, acc.Nodup → (dedF acc l).Nodup
  | [], acc, h => h
  | y :: l, acc, h => by
    unfold dedF
    apply dedF_nodup
    split
    · exact h
    · rename_i z
      rw [List.nodup_append]
      exact ⟨h, by simp, fun a ha b hb => by simp at hb; subst hb; intro e; subst e; exact z (List.contains_iff_mem.mpr ha)⟩
theorem dedF_len : ∀ {l acc : List α}, (dedF acc l).length ≤ acc.length + l.length
  | [], acc => by simp [dedF]
  | y :: l, acc => by
    unfold dedF
    refine Nat.le_trans dedF_len ?_
    split
    · simp only [List.length_cons]; omega
    · simp only [List.length_append, List.length_cons, List.length_nil]; omega
end
theorem eqB_pe (a b : S × S) : eqB (pe a) (pe b) = (a == b) := by
  obtain ⟨a1, a2⟩ := a
  obtain ⟨b1, b2⟩ := b
  simp only [pe, eqB_tup, eqBL_cons, eqBL_nil, eqB_S, Bool.and_true]
  rfl
theorem okD_pe (p : S × S) : okD (pe p) = true := by simp only [pe, okD, okDL, okD_S, Bool.and_self]
theorem dep_pe (p : S × S) : dep (pe p) ≤ 3 := by
  have h1 := dep_S p.1
  have h2 := dep_S p.2
  simp only [pe, dep, depL, Nat.max_zero]
  omega
theorem noLstL_ints : ∀ l : List Int, keyOk.noLstL (l.map PV.int) = true
  | [] => by simp [keyOk.noLstL]
  | x :: l => by simp only [List.map_cons, keyOk.noLstL, keyOk.noLst, noLstL_ints l, Bool.and_self]
theorem noLst_S (s : S) : keyOk.noLst s.e = true := by
  have h : keyOk.noLst (eH s.hd) = true := by cases s.hd <;> simp [eH, keyOk.noLst]
  simp only [S.e, keyOk.noLst, keyOk.noLstL, noLstL_ints, h, Bool.and_self]
theorem key_pe (p : S × S) : keyOk true (pe p) = true := by
  have h1 := okD_pe p
  have h2 := dep_pe p
  unfold pe at h1 h2 ⊢
  simp only [okD] at h1
  simp only [keyOk, h1, keyOk.noLst, keyOk.noLstL, noLst_S, Bool.and_true, Bool.true_and, decide_eq_true_eq]
  omega
theorem shp_pes (l : List (S × S)) : shp (.lst (l.map pe)) = true := by
  have := depL_map dep_pe l
  have e : okD (.lst (l.map pe)) = true := by simp only [okD, okDL_map okD_pe]
  have e2 : dep (.lst (l.map pe)) ≤ 60 := by simp only [dep]; omega
  unfold shp
  rw [e, Bool.true_and]
  exact decide_eq_true e2
def inO (l : List (S × S)) : Option (S × S) → Bool
  | none => false
  | some p => l.contains p
structure B where
  line : List (S × S)
  crs : List (List Stp)
  part : Option (List Stp)
section
variable (m : Mo) (r1 r2 : Ru)
def stepB (p : S × S) (c : List Stp) (b : B) (st : Stp) : B :=
  match bothP m r1 r2 p st with
  | none => if b.part = none then { b with part := some (c ++ [st]) } else b
  | some p' => if b.line.contains p' then b else { b with line := b.line ++ [p'], crs := b.crs ++ [c ++ [st]] }
def turnB (b : B) (k : Nat) : B := match b.line[k]?, b.crs[k]? with
  | some p, some c => (anyP m p).foldl (stepB m r1 r2 p c) b
  | _, _ => b
/-- the pair behind steps that are the same with both -/
def goP : S × S → List Stp → Option (S × S)
  | p, [] => some p
  | p, st :: l => match bothP m r1 r2 p st with
    | none => none
    | some p' => goP p' l
def partB (c : List Stp) : Bool := match c.getLast? with
  | none => false
  | some x => match goP m r1 r2 (s0 m, s0 m) c.dropLast with
    | none => false
    | some p => (anyP m p).contains x && (bothP m r1 r2 p x).isNone
def likeP (l : List (S × S)) (p : S × S) : Bool := (anyP m p).all fun st => inO l (bothP m r1 r2 p st)
def likeB (l : List (S × S)) : Bool := l.contains (s0 m, s0 m) && (ded l).all (likeP m r1 r2 l)
/-- what holds all the way -/
structure B.Ok (b : B) : Prop where
  nd : b.line.Nodup
  len : b.line.length = b.crs.length
  st : b.line.contains (s0 m, s0 m) = true
  go : ∀ (k : Nat) p c, b.line[k]? = some p → b.crs[k]? = some c → goP m r1 r2 (s0 m, s0 m) c = some p
  ok : ∀ p ∈ b.line, POk m p
  pt : ∀ c, b.part = some c → partB m r1 r2 c = true
  cl : ∀ c ∈ b.crs, c.length < b.crs.length
  pl : ∀ c, b.part = some c → c.length ≤ b.crs.length
end
section
variable {m : Mo} {r1 r2 : Ru}
theorem goP_app : ∀ {l k : List Stp} {p : S × S}, goP m r1 r2 p (l ++ k) = (goP m r1 r2 p l).bind fun q => goP m r1 r2 q k
  | [], k, p => rfl
  | st :: l, k, p => by
    simp only [List.cons_append, goP]
    cases bothP m r1 r2 p st with
    | none => rfl
    | some q => exact goP_app
/-- b came before b' -/
structure B.Le (b b' : B) : Prop where
  line : ∃ l, b'.line = b.line ++ l
  crs : ∃ l, b'.crs = b.crs ++ l
  part : ∀ c, b.part = some c → b'.part = some c
theorem B.Le.refl (b : B) : B.Le b b := ⟨⟨[], by simp⟩, ⟨[], by simp⟩, fun _ h => h⟩
theorem B.Le.trans {a b c : B} (h : B.Le a b) (k : B.Le b c) : B.Le a c := by
  obtain ⟨⟨l1, e1⟩, ⟨l2, e2⟩, p1⟩ := h
  obtain ⟨⟨l3, e3⟩, ⟨l4, e4⟩, p2⟩ := k
  exact ⟨⟨l1 ++ l3, by rw [e3, e1, List.append_assoc]⟩, ⟨l2 ++ l4, by rw [e4, e2, List.append_assoc]⟩, fun c hc => p2 c (p1 c hc)⟩
theorem B.Le.len {a b : B} (h : B.Le a b) : a.line.length ≤ b.line.length := by
  obtain ⟨⟨l, e⟩, _, _⟩ := h
  rw [e]; simp
theorem B.Le.at_ {a b : B} (h : B.Le a b) {k : Nat} {p : S × S} (e : a.line[k]? = some p) : b.line[k]? = some p := by
  obtain ⟨⟨l, e1⟩, _, _⟩ := h
  rw [e1, List.getElem?_append_left (by exact (List.getElem?_eq_some_iff.mp e).1)]
  exact e
theorem B.Le.crsAt {a b : B} (h : B.Le a b) {k : Nat} {c : List Stp} (e : a.crs[k]? = some c) : b.crs[k]? = some c := by
  obtain ⟨_, ⟨l, e1⟩, _⟩ := h
  rw [e1, List.getElem?_append_left (by exact (List.getElem?_eq_some_iff.mp e).1)]
  exact e
theorem step_le {p : S × S} {c : List Stp} {b : B} {st : Stp} : B.Le b (stepB m r1 r2 p c b st) := by
  unfold stepB
  split
  · split
    · rename_i h
      exact ⟨⟨[], by simp⟩, ⟨[], by simp⟩, fun c hc => by rw [h] at hc; cases hc⟩
    · exact .refl b
  · split
    · exact .refl b
    · exact ⟨⟨_, rfl⟩, ⟨_, rfl⟩, fun c hc => hc⟩
theorem fold_le {p : S × S} {c : List Stp} : ∀ {l : List Stp} {b : B}, B.Le b (l.foldl (stepB m r1 r2 p c) b)
  | [], b => .refl b
  | st :: l, b => step_le.trans fold_le
theorem turn_le {b : B} {k : Nat} : B.Le b (turnB m r1 r2 b k) := by
  unfold turnB
  split
  · exact fold_le
  · exact .refl b
theorem step_ok (hm : m.Ok) {p : S × S} {c : List Stp} {b : B} {st : Stp} (h : b.Ok m r1 r2) (hp : POk m p) (hcl : c ∈ b.crs) (hc : goP m r1 r2 (s0 m, s0 m) c = some p) (hs : st ∈ anyP m p) : (stepB m r1 r2 p c b st).Ok m r1 r2 := by
  unfold stepB
  split
  · rename_i hb
    split
    · refine ⟨h.nd, h.len, h.st, h.go, h.ok, fun c' hc' => ?_, h.cl, fun c' hc' => by
        have e : c' = c ++ [st] := by simpa using hc'.symm
        have := h.cl c hcl
        subst e
        show (c ++ [st]).length ≤ b.crs.length
        simp; omega⟩
      have e : c' = c ++ [st] := by simpa using hc'.symm
      subst e
      unfold partB
      rw [List.getLast?_concat, List.dropLast_concat]
      simp only [hc, hb, Option.isNone_none, Bool.and_true]
      exact List.contains_iff_mem.mpr hs
    · exact h
  · rename_i p' hb
    split
    · exact h
    · rename_i hn
      have hn : p' ∉ b.line := fun z => hn (List.contains_iff_mem.mpr z)
      refine ⟨?_, by simp [h.len], ?_, fun k q d h1 h2 => ?_, fun q hq => ?_, h.pt, fun d hd => ?_, fun d hd => by
        have := h.pl d hd
        show d.length ≤ (b.crs ++ [c ++ [st]]).length
        simp; omega⟩
      · show (b.line ++ [p']).Nodup
        rw [List.nodup_append]
        exact ⟨h.nd, by simp, fun a ha b hb => by simp at hb; subst hb; intro e; subst e; exact hn ha⟩
      · show (b.line ++ [p']).contains _ = true
        have := List.contains_iff_mem.mp h.st
        exact List.contains_iff_mem.mpr (List.mem_append_left _ this)
      · have h1 : (b.line ++ [p'])[k]? = some q := h1
        have h2 : (b.crs ++ [c ++ [st]])[k]? = some d := h2
        rcases Nat.lt_or_ge k b.line.length with z | z
        · rw [List.getElem?_append_left z] at h1
          rw [List.getElem?_append_left (by rw [← h.len]; exact z)] at h2
          exact h.go k q d h1 h2
        · rw [List.getElem?_append_right z] at h1
          rw [List.getElem?_append_right (by rw [← h.len]; exact z)] at h2
          have e : k - b.line.length = 0 := by
            have := (List.getElem?_eq_some_iff.mp h1).1
            simp at this
            omega
          rw [e] at h1
          rw [← h.len, e] at h2
          simp at h1 h2
          subst h1 h2
          rw [goP_app, hc]
          simp only [Option.bind_some, goP, hb]
      · have hq : q ∈ b.line ++ [p'] := hq
        rcases List.mem_append.mp hq with z | z
        · exact h.ok q z
        · simp at z; subst z; exact both_ok hm hp hb
      · have hd : d ∈ b.crs ++ [c ++ [st]] := hd
        show d.length < (b.crs ++ [c ++ [st]]).length
        rw [List.length_append]
        rcases List.mem_append.mp hd with z | z
        · have := h.cl d z; simp; omega
        · simp at z; subst z
          have := h.cl c hcl
          simp; omega
theorem fold_ok_q (hm : m.Ok) {p : S × S} {c : List Stp} (hp : POk m p) (hc : goP m r1 r2 (s0 m, s0 m) c = some p) : ∀ {l : List Stp} {b : B}, (∀ st ∈ l, st ∈ anyP m p) → c ∈ b.crs → b.Ok m r1 r2 → (l.foldl (stepB m r1 r2 p c) b).Ok m r1 r2
  | [], b, _, _, h => h
  | st :: l, b, hl, hcl, h => fold_ok_q (l := l) hm hp hc (fun x hx => hl x (List.mem_cons_of_mem _ hx)) (by
      obtain ⟨l', e⟩ := (step_le (m := m) (r1 := r1) (r2 := r2) (p := p) (c := c) (b := b) (st := st)).crs
      rw [e]; exact List.mem_append_left _ hcl) (step_ok hm h hp hcl hc (hl st List.mem_cons_self))
theorem turn_ok (hm : m.Ok) {b : B} {k : Nat} (h : b.Ok m r1 r2) : (turnB m r1 r2 b k).Ok m r1 r2 := by
  unfold turnB
  split
  · rename_i p c h1 h2
    exact fold_ok_q hm (h.ok p (List.mem_of_getElem? h1)) (h.go k p c h1 h2) (fun _ hs => hs) (List.mem_of_getElem? h2) h
  · exact h
/-- the pairs up to k have all behind them -/
def B.Upto (m : Mo) (r1 r2 : Ru) (b : B) (k : Nat) : Prop := b.part = none → ∀ (j : Nat) p, j < k → b.line[j]? = some p → likeP m r1 r2 b.line p = true
theorem likeP_mono {l l' : List (S × S)} {p : S × S} (h : ∀ x ∈ l, x ∈ l') (k : likeP m r1 r2 l p = true) : likeP m r1 r2 l' p = true := by
  unfold likeP at k ⊢
  rw [List.all_eq_true] at k ⊢
  intro st hs
  have := k st hs
  cases e : bothP m r1 r2 p st with
  | none => rw [e] at this; cases this
  | some p' => rw [e] at this; exact List.contains_iff_mem.mpr (h _ (List.contains_iff_mem.mp this))
theorem fold_like {p : S × S} {c : List Stp} : ∀ {l : List Stp} {b : B}, (l.foldl (stepB m r1 r2 p c) b).part = none → ∀ st ∈ l, ∃ p', bothP m r1 r2 p st = some p' ∧ p' ∈ (l.foldl (stepB m r1 r2 p c) b).line
  | [], b, _, st, hs => by simp at hs
  | x :: l, b, hp, st, hs => by
    have le : B.Le (stepB m r1 r2 p c b x) ((x :: l).foldl (stepB m r1 r2 p c) b) := fold_le
    rcases List.mem_cons.mp hs with rfl | hs
    · have hp1 : (stepB m r1 r2 p c b st).part = none := by
        cases e : (stepB m r1 r2 p c b st).part with
        | none => rfl
        | some d => rw [le.part d e] at hp; cases hp
      have key : ∃ p', bothP m r1 r2 p st = some p' ∧ p' ∈ (stepB m r1 r2 p c b st).line := by
        unfold stepB at hp1 ⊢
        split at hp1
        · split at hp1
          · cases hp1
          · rename_i z; exact absurd hp1 z
        · rename_i p' hb
          refine ⟨p', hb, ?_⟩
          split
          · rename_i z; exact List.contains_iff_mem.mp z
          · exact List.mem_append_right _ (by simp)
      obtain ⟨p', h1, h2⟩ := key
      obtain ⟨l', e⟩ := le.line
      exact ⟨p', h1, by rw [e]; exact List.mem_append_left _ h2⟩
    · exact fold_like (l := l) (b := stepB m r1 r2 p c b x) hp st hs
theorem turn_upto {b : B} {k : Nat} (h : b.Ok m r1 r2) (hk : k < b.line.length) (u : b.Upto m r1 r2 k) : (turnB m r1 r2 b k).Upto m r1 r2 (k + 1) := by
  intro hp j p hj hl
  have le : B.Le b (turnB m r1 r2 b k) := turn_le
  have hp0 : b.part = none := by
    cases e : b.part with
    | none => rfl
    | some d => rw [le.part d e] at hp; cases hp
  obtain ⟨p0, e0⟩ : ∃ p0, b.line[k]? = some p0 := ⟨_, List.getElem?_eq_getElem hk⟩
  obtain ⟨c0, e1⟩ : ∃ c0, b.crs[k]? = some c0 := ⟨_, List.getElem?_eq_getElem (by rw [← h.len]; exact hk)⟩
  rcases Nat.lt_or_ge j k with z | z
  · have hb : b.line[j]? = some p := by
      obtain ⟨l, e⟩ := le.line
      rw [e, List.getElem?_append_left (by omega)] at hl
      exact hl
    obtain ⟨l, e⟩ := le.line
    exact likeP_mono (fun x hx => by rw [e]; exact List.mem_append_left _ hx) (u hp0 j p z hb)
  · have ej : j = k := by omega
    subst ej
    have := le.at_ e0
    rw [hl] at this
    cases this
    unfold turnB at hp ⊢
    rw [e0, e1] at hp ⊢
    simp only at hp ⊢
    unfold likeP
    rw [List.all_eq_true]
    intro st hs
    obtain ⟨p', h1, h2⟩ := fold_like hp st hs
    rw [h1]
    exact List.contains_iff_mem.mpr h2
theorem like_of {b : B} {k : Nat} (h : b.Ok m r1 r2) (u : b.Upto m r1 r2 k) (hk : b.line.length ≤ k) (hp : b.part = none) : likeB m r1 r2 b.line = true := by
  unfold likeB
  rw [h.st, Bool.true_and, List.all_eq_true]
  intro p hpm
  obtain ⟨j, hj, e⟩ := List.mem_iff_getElem.mp (mem_ded.mp hpm)
  exact u hp j p (by omega) (by rw [List.getElem?_eq_getElem hj, e])
def b0 (m : Mo) : B := ⟨[(s0 m, s0 m)], [[]], none⟩
theorem b0_ok : (b0 m).Ok m r1 r2 := by
  refine ⟨by simp [b0], rfl, by simp [b0], fun k p c h1 h2 => ?_, fun p hp => ?_, fun c hc => (by cases hc), fun c hc => (by simp [b0] at hc ⊢; simp [hc]), fun c hc => by cases hc⟩
  · have e : k = 0 := by
      have := (List.getElem?_eq_some_iff.mp h1).1
      simp [b0] at this
      omega
    subst e
    simp [b0] at h1 h2
    subst h1 h2
    rfl
  · simp [b0] at hp; subst hp; exact ⟨s0_ok, s0_ok⟩
end
end Zk
-- ZkO
namespace Zk
open PySem
def cE (c : List Stp) : PV := .tup (c.map Stp.e)
/-- a dict at 0, a list at 1 -/
def dl (ks vs xs : List PV) : Store := [.dct true ks vs, .lst xs]
section
variable {ks vs xs : List PV} {k v x : PV} {i : Int} {p : S × S} {l : List (S × S)}
theorem dl_sub1 : subV (.loc 1) (.int i) (dl ks vs xs) = atI xs i := rfl
theorem dl_sub0 : subV (.loc 0) (pe p) (dl ks vs xs) = dget (pe p) ks vs := by
  show (if keyOk true (pe p) then dget (pe p) ks vs else none) = _
  rw [key_pe]; rfl
theorem dl_in0 (h : l.length = vs.length) : inV (pe p) (.loc 0) (dl (l.map pe) vs xs) = some (l.contains p) := by
  show (if keyOk true (pe p) then some (dget (pe p) (l.map pe) vs).isSome else noneIn true (pe p)) = _
  rw [key_pe, dget_some eqB_pe h, if_pos rfl]
theorem dl_len1 : bltV .len [.loc 1] (dl ks vs xs) = .ok (.int xs.length) (dl ks vs xs) := rfl
theorem dl_len0 : bltV .len [.loc 0] (dl ks vs xs) = .ok (.int ks.length) (dl ks vs xs) := rfl
theorem dl_set0 (h : l.contains p = false) (hl : l.length < 1000000) : setIV (.loc 0) (pe p) v (dl (l.map pe) vs xs) = some (dl ((l ++ [p]).map pe) (vs ++ [v]) xs) := by
  show (if keyOk true (pe p) && decide ((l.map pe).length < mostLen) then some _ else none) = _
  rw [key_pe, if_pos (by rw [List.length_map]; simp [mostLen, hl])]
  have e := dput_new eqB_pe (vs := vs) (v := v) h
  rw [e]; rfl
theorem dl_app (h : xs.length < 1000000) : bmV .append (.loc 1) [v] (dl ks vs xs) = .ok .non (dl ks vs (xs ++ [v])) := by
  show (if xs.length < mostLen then _ else _) = _
  rw [if_pos (by unfold mostLen; exact h)]; rfl
theorem dl_appOk : bmOk .append (.loc 1) (dl ks vs xs) = true := rfl
theorem dl_popOk : bmOk .popAt (.loc 1) (dl ks vs xs) = true := rfl
theorem dl_pop : bmV .popAt (.loc 1) [.int 0] (dl ks vs (x :: xs)) = .ok x (dl ks vs xs) := rfl
theorem dl_thaw : thaw (.loc 1) (dl ks vs xs) = .lst xs := rfl
theorem dl_frz1 : frzV (.loc 1) (dl ks vs xs) = .ok (.lst xs) [.dct true ks vs, .dead] := rfl
theorem dl_frz0 : frzV (.loc 0) (dl ks vs xs) = .ok (.dct true ks vs) [.dead, .lst xs] := rfl
theorem ne_pes {M : Store} (h : thaw v M = .lst (l.map pe)) : cmpV M .ne v (.lst []) = some (!l.isEmpty) := by
  have e : eqB (.lst (l.map pe)) (.lst []) = l.isEmpty := by cases l <;> simp [eqB, eqBL]
  have h2 : shp (.lst []) = true := rfl
  simp only [cmpV, h, thaw_lst, shp_pes, h2, Bool.and_self, if_true, e]
end
theorem locF_cE (c : List Stp) : locF (cE c) = true := by simp only [cE, locF, locFL_stp]
theorem locFL_pes (l : List (S × S)) : locFL (l.map pe) = true := locFL_map locF_pe l
def fwE (o : Option (List Stp)) : PV := eI (o.map fun c => (c.length : Int))
theorem isNV_fw {o : Option (List Stp)} : isNV (fwE o) = some o.isNone := by cases o <;> rfl
theorem isNV_pe {p : S × S} : isNV (pe p) = some false := rfl
theorem isNV_cE {c : List Stp} : isNV (cE c) = some false := rfl
theorem fw_some {c : List Stp} : fwE (some c) = .int c.length := rfl
theorem fw_none : fwE none = .non := rfl
/-- a loop over the items of a list, each turn by a lemma; I tells how many items are left -/
theorem for_ind {α : Type} {tg : Tg} {body : Sl → Store → RS} {f : α → PV} {β : Type} (ρ : β → Sl) (M : β → Store) (I : Nat → β → Prop) (g : β → α → β) : ∀ {xs : List α} {b : β}, (∀ x ∈ xs, ∀ j b, I (j + 1) b → I j (g b x) ∧ ∃ ρ1, setT tg (f x) (ρ b) = some ρ1 ∧ body ρ1 (M b) = .nx (ρ (g b x)) (M (g b x))) → I xs.length b → forLoop tg body (xs.map f) (ρ b) (M b) = .nx (ρ (xs.foldl g b)) (M (xs.foldl g b)) ∧ I 0 (xs.foldl g b)
  | [], b, _, h => ⟨rfl, h⟩
  | x :: xs, b, h, hb => by
    obtain ⟨h1, ρ1, h2, h3⟩ := h x List.mem_cons_self xs.length b hb
    rw [List.map_cons]
    unfold forLoop
    rw [h2]
    simp only [h3, List.foldl_cons]
    exact for_ind ρ M I g (fun y hy => h y (List.mem_cons_of_mem _ hy)) h1
section
variable (m : Mo) (r1 r2 : Ru)
/-- the search behind k turns -/
def bfsN : Nat → B
  | 0 => b0 m
  | k + 1 => turnB m r1 r2 (bfsN k) k
/-- it ends behind K turns, with few pairs -/
structure Fin' (K : Nat) : Prop where
  on : ∀ k, k < K → k < (bfsN m r1 r2 k).line.length
  off : (bfsN m r1 r2 K).line.length ≤ K
  few : (bfsN m r1 r2 K).line.length ≤ 300
end
section
variable {m : Mo} {r1 r2 : Ru}
theorem bfs_ok (hm : m.Ok) : ∀ k, (bfsN m r1 r2 k).Ok m r1 r2
  | 0 => b0_ok
  | k + 1 => turn_ok hm (bfs_ok hm k)
theorem bfs_le (k : Nat) : ∀ j, B.Le (bfsN m r1 r2 k) (bfsN m r1 r2 (k + j))
  | 0 => .refl _
  | j + 1 => (bfs_le k j).trans turn_le
theorem Fin'.le {K k : Nat} (h : Fin' m r1 r2 K) (hk : k ≤ K) : (bfsN m r1 r2 k).line.length ≤ 300 := by
  have := (bfs_le (m := m) (r1 := r1) (r2 := r2) k (K - k)).len
  rw [show k + (K - k) = K from by omega] at this
  have := h.few
  omega
theorem bfs_upto (hm : m.Ok) {K : Nat} (h : ∀ k, k < K → k < (bfsN m r1 r2 k).line.length) : (bfsN m r1 r2 K).Upto m r1 r2 K := by
  induction K with
  | zero => intro _ j p hj; omega
  | succ K ih => exact turn_upto (bfs_ok hm K) (h K (by omega)) (ih fun k hk => h k (by omega))
theorem Fin'.like {K : Nat} (hm : m.Ok) (h : Fin' m r1 r2 K) (hp : (bfsN m r1 r2 K).part = none) : likeB m r1 r2 (bfsN m r1 r2 K).line = true := like_of (bfs_ok hm K) (bfs_upto hm h.on) h.off hp
end
def valK (r : R PV) (k : PV → Store → Option (Option (PV × PV) × Store)) (_ : Wt k := .mk) : Option (Option (PV × PV) × Store) := match r with
  | .ok v M => k v M
  | _ => none
theorem valK_ok {v : PV} {M : Store} {k : PV → Store → Option (Option (PV × PV) × Store)} {w : Wt k} : valK (.ok v M) k w = k v M := rfl
def turnD (r : R PV) (k : Store → Option (Option (PV × PV) × Store)) (_ : Wt k := .mk) : Option (Option (PV × PV) × Store) := match r with
  | .ok (.bl true) M => k M
  | .ok (.bl false) M => some (none, M)
  | _ => none
theorem turnD_bl {t : Bool} {M : Store} {k : Store → Option (Option (PV × PV) × Store)} {w : Wt k} : turnD (.ok (.bl t) M) k w = if t = true then k M else some (none, M) := by cases t <;> rfl
theorem dcTurn_eq {t : Bool} {tg : Tg} {own : List Nat} {ρ : Sl} {cond key val : Sl → Store → R PV} {x : PV} {M : Store} : dcTurn t tg own ρ cond key val x M = optB (setT tg x (wipeS ρ own)) (fun ρ' => turnD (cond ρ' M) (fun M2 => valK (key ρ' M2) (fun a M3 => valK (val ρ' M3) (fun v M4 => if keyOk t a then some (some (a, v), M4) else none)))) none := by
  unfold dcTurn
  cases setT tg x (wipeS ρ own) with
  | none => rfl
  | some ρ' =>
    show (match (cond ρ' M).okB with | some (true, M2) => _ | some (false, M2) => _ | none => _) = turnD (cond ρ' M) _
    cases cond ρ' M with
    | ok v M2 =>
      cases v with
      | bl t =>
        cases t with
        | false => rfl
        | true =>
          show (match (key ρ' M2).val with | some (a, M3) => _ | none => none) = valK (key ρ' M2) _
          cases key ρ' M2 with
          | ok a M3 =>
            show (match (val ρ' M3).val with | some (v, M4) => _ | none => none) = valK (val ρ' M3) _
            cases val ρ' M3 <;> rfl
          | _ => rfl
      | _ => rfl
    | _ => rfl
theorem key_pe_if {p : S × S} {α : Type} {x y : α} : (if keyOk true (pe p) = true then x else y) = x := by rw [key_pe, if_pos rfl]
section
variable {l : List (S × S)} {v : PV} {M : Store}
theorem dcLoop_same {F : PV → Store → Option (Option (PV × PV) × Store)} : ∀ {l acc : List (S × S)}, (∀ x ∈ l, F (pe x) M = some (some (pe x, v), M)) → acc.length + l.length ≤ 900000 → dcLoop F (l.map pe) (acc.map pe, acc.map fun _ => v) M = some (((dedF acc l).map pe, (dedF acc l).map fun _ => v), M)
  | [], acc, _, _ => rfl
  | x :: l, acc, h, hl => by
    rw [List.map_cons]
    unfold dcLoop
    rw [h x List.mem_cons_self]
    simp only [List.length_map, List.length_cons] at hl ⊢
    rw [if_pos (by unfold mostLen; omega), dput_same eqB_pe]
    unfold dedF
    cases e : acc.contains x with
    | true => simp only [if_true]; exact dcLoop_same (fun y hy => h y (List.mem_cons_of_mem _ hy)) (by omega)
    | false => simp only [Bool.false_eq_true, if_false]; exact dcLoop_same (fun y hy => h y (List.mem_cons_of_mem _ hy)) (by simp; omega)
theorem dc_same {F : PV → Store → Option (Option (PV × PV) × Store)} (h : ∀ x ∈ l, F (pe x) M = some (some (pe x, v), M)) (hl : l.length ≤ 900000) : dcEnd true (dcLoop F (l.map pe) ([], []) M) = .ok (.dct true ((ded l).map pe) ((ded l).map fun _ => v)) M := by
  have := dcLoop_same (acc := []) h (by simpa using hl)
  rw [show (([], []) : List PV × List PV) = (([] : List (S × S)).map pe, ([] : List (S × S)).map fun _ => v) from rfl, this]
  rfl
theorem pairsL_map : ∀ l : List (S × S), pairsL (l.map fun p => PV.tup [pe p, v]) = some (l.map fun p => (pe p, v))
  | [] => rfl
  | x :: l => by
    simp only [List.map_cons, pairsL, key_pe, if_true, pairsL_map l, Option.map_some]
theorem putAll_same : ∀ {l acc : List (S × S)}, putAll (l.map fun p => (pe p, v)) (acc.map pe, acc.map fun _ => v) = ((dedF acc l).map pe, (dedF acc l).map fun _ => v)
  | [], acc => rfl
  | x :: l, acc => by
    rw [List.map_cons]
    unfold putAll dedF
    rw [dput_same eqB_pe]
    cases e : acc.contains x with
    | true => simp only [if_true]; exact putAll_same
    | false => simp only [Bool.false_eq_true, if_false]; exact putAll_same
theorem dctP_same (hl : l.length ≤ 900000) : bltV .dctP [.lst (l.map fun p => PV.tup [pe p, v])] M = .ok (.dct true ((ded l).map pe) ((ded l).map fun _ => v)) M := by
  show (if (l.map fun p => PV.tup [pe p, v]).length ≤ mostLen then (match pairsL (l.map fun p => PV.tup [pe p, v]) with | some ps => R.ok (PV.dct true (putAll ps ([], [])).1 (putAll ps ([], [])).2) M | none => .bad) else .bad) = _
  rw [if_pos (by rw [List.length_map]; unfold mostLen; omega), pairsL_map]
  have := putAll_same (l := l) (acc := []) (v := v)
  simp only [List.map_nil] at this
  simp only [this]
  rfl
theorem in_known {o : Option (S × S)} : inV (eP o) (.dct true (l.map pe) (l.map fun _ => v)) M = some (inO l o) := by
  cases o with
  | none => rfl
  | some p =>
    show (if keyOk true (pe p) then some (dget (pe p) (l.map pe) (l.map fun _ => v)).isSome else noneIn true (pe p)) = _
    rw [key_pe, dget_some eqB_pe (by simp), if_pos rfl]
    rfl
theorem in_knownP {p : S × S} : inV (pe p) (.dct true (l.map pe) (l.map fun _ => v)) M = some (l.contains p) := in_known (o := some p)
theorem walk_dct {ks vs : List PV} : walkV .val [.dct true ks vs] = some ks := rfl
theorem ded_contains {p : S × S} : (ded l).contains p = l.contains p := by
  rw [Bool.eq_iff_iff, List.contains_iff_mem, List.contains_iff_mem]; exact mem_ded
theorem ded_inO {o : Option (S × S)} : inO (ded l) o = inO l o := by
  cases o with
  | none => rfl
  | some p => exact ded_contains
theorem ded_len : (ded l).length ≤ l.length := by
  have := dedF_len (l := l) (acc := [])
  simpa [ded] using this
end
/-- a loop that is left with v at the first item that fails -/
theorem for_test {α : Type} {tg : Tg} {body : Sl → Store → RS} {f : α → PV} (R : Sl → Prop) (g : α → Bool) {M : Store} {v : PV} : ∀ {xs : List α}, (∀ x ∈ xs, ∀ ρ, R ρ → ∃ ρ1 ρ2, setT tg (f x) ρ = some ρ1 ∧ R ρ2 ∧ body ρ1 M = if g x = true then .nx ρ2 M else .rt v M) → ∀ ρ, R ρ → ∃ ρ2, R ρ2 ∧ forLoop tg body (xs.map f) ρ M = if xs.all g = true then .nx ρ2 M else .rt v M
  | [], _, ρ, hρ => ⟨ρ, hρ, rfl⟩
  | x :: xs, h, ρ, hρ => by
    obtain ⟨ρ1, ρ2, h1, h2, h3⟩ := h x List.mem_cons_self ρ hρ
    rw [List.map_cons]
    unfold forLoop
    rw [h1]
    by_cases e : g x = true
    · rw [if_pos e] at h3
      simp only [h3, List.all_cons, e, Bool.true_and]
      exact for_test R g (fun y hy => h y (List.mem_cons_of_mem _ hy)) ρ2 h2
    · rw [if_neg e] at h3
      have e2 : g x = false := by simpa using e
      simp only [h3, List.all_cons, e2, Bool.false_and, Bool.false_eq_true, if_false]
      exact ⟨ρ2, h2, trivial⟩
end Zk
-- ZkA
namespace Zk
open PySem
section
variable {M : Store} {i j : Int}
theorem mul_r (h : small j = true) : bopV .mul (.int i) (.int j) = some (.int (i * j)) := by
  show (if small i || small j then _ else _) = _
  rw [h, Bool.or_true, if_pos rfl]
theorem mul_l (h : small i = true) : bopV .mul (.int i) (.int j) = some (.int (i * j)) := by
  show (if small i || small j then _ else _) = _
  rw [h, Bool.true_or, if_pos rfl]
theorem bop_mod (h : 0 < j) : bopV .mod (.int i) (.int j) = some (.int (i % j)) := if_pos h
theorem bop_div (h : (decide (0 < j) && decide (j.natAbs.log2 < 9000)) = true) : bopV .fdiv (.int i) (.int j) = some (.int (i / j)) := if_pos h
theorem bop_pow18 : bopV .pow (.int 10) (.int 18) = some (.int 1000000000000000000) := by rfl
theorem intI_int : bltV .intI [.int i] M = .ok (.int i) M := rfl
theorem small_of (h1 : -(2 ^ 64) < i) (h2 : i < 2 ^ 64) : small i = true := by
  unfold small
  rw [decide_eq_true h1, decide_eq_true h2]; rfl
end
/-- the list that is drawn from -/
def dr (sc : List Int) (k : Int) : MO := .lst [.lst (sc.map PV.int), .int 0, .int k]
section
variable {sc : List Int} {k : Int} {R : Store} {v : PV}
theorem dr_0 : subV (.loc 0) (.int 0) (dr sc k :: R) = some (.lst (sc.map PV.int)) := rfl
theorem dr_1 : subV (.loc 0) (.int 1) (dr sc k :: R) = some (.int 0) := rfl
theorem dr_2 : subV (.loc 0) (.int 2) (dr sc k :: R) = some (.int k) := rfl
theorem dr_set {i : Int} : setIV (.loc 0) (.int 2) (.int i) (dr sc k :: R) = some (dr sc i :: R) := rfl
end
def primes : List Int := [1000003, 1000033, 1000037, 1000039, 1000081, 1000099, 1000117, 1000121, 1000133, 1000151, 1000159, 1000171, 1000183, 1000187, 1000193, 1000199]
theorem primes_at {i : Int} (h0 : 0 ≤ i) (h1 : i < 16) : ∃ q, 0 < q ∧ atI primes i = some q := by
  have e : i = ((i.toNat : Nat) : Int) := by omega
  rw [e, atI_nat]
  have h : i.toNat < 16 := by omega
  generalize i.toNat = j at h
  have key : ∀ j : Fin 16, (match primes[j.val]? with | some q => decide (0 < q) | none => false) = true := by decide +kernel
  have := key ⟨j, h⟩
  simp only at this
  cases e : primes[j]? with
  | none => rw [e] at this; cases this
  | some q => rw [e] at this; exact ⟨q, of_decide_eq_true this, rfl⟩
theorem pow_log (j : Nat) (h : j ≤ 12) : (((1009 : Int) ^ j).natAbs.log2 < 9000) ∧ 0 < (1009 : Int) ^ j := by
  have key : ∀ j : Fin 13, (((1009 : Int) ^ j.val).natAbs.log2 < 9000) ∧ 0 < (1009 : Int) ^ j.val := by decide +kernel
  exact key ⟨j, by omega⟩
end Zk
-- Zr0_03
namespace Zk.K03
open PySem Zk
def FL : List Str := ["plan", "rules", "phase", "loaded", "queue", "emptied", "helper", "used", "is_lost"]
/-- the program object -/
def pr (a b c d e f g h i : PV) : Store := [.ins 14 FL [a, b, c, d, e, f, g, h, i]]
theorem g_mq : t.tabs.glb "MOST_QUEUE" = some (.int 3) := by rfl
section
variable {a b c d e f g h i v : PV} {M : Store}
theorem a_plan : attrV t.tabs "plan" (.loc 0) (pr a b c d e f g h i) = some a := rfl
theorem a_rules : attrV t.tabs "rules" (.loc 0) (pr a b c d e f g h i) = some b := rfl
theorem a_phase : attrV t.tabs "phase" (.loc 0) (pr a b c d e f g h i) = some c := rfl
theorem a_loaded : attrV t.tabs "loaded" (.loc 0) (pr a b c d e f g h i) = some d := rfl
theorem a_queue : attrV t.tabs "queue" (.loc 0) (pr a b c d e f g h i) = some e := rfl
theorem a_emptied : attrV t.tabs "emptied" (.loc 0) (pr a b c d e f g h i) = some f := rfl
theorem a_helper : attrV t.tabs "helper" (.loc 0) (pr a b c d e f g h i) = some g := rfl
theorem s_phase : setAV t.tabs (.loc 0) "phase" v (pr a b c d e f g h i) = some (pr a b v d e f g h i) := rfl
theorem s_loaded : setAV t.tabs (.loc 0) "loaded" v (pr a b c d e f g h i) = some (pr a b c v e f g h i) := rfl
theorem s_queue : setAV t.tabs (.loc 0) "queue" v (pr a b c d e f g h i) = some (pr a b c d v f g h i) := rfl
theorem s_emptied : setAV t.tabs (.loc 0) "emptied" v (pr a b c d e f g h i) = some (pr a b c d e v g h i) := rfl
theorem s_helper : setAV t.tabs (.loc 0) "helper" v (pr a b c d e f g h i) = some (pr a b c d e f v h i) := rfl
theorem s_used : setAV t.tabs (.loc 0) "used" v (pr a b c d e f g h i) = some (pr a b c d e f g v i) := rfl
theorem s_lost : setAV t.tabs (.loc 0) "is_lost" v (pr a b c d e f g h i) = some (pr a b c d e f g h v) := rfl
theorem m_enqueue : methOf t.tabs (.loc 0) "enqueue" (pr a b c d e f g h i) = some 20 := rfl
theorem m_begin : methOf t.tabs (.loc 0) "begin" (pr a b c d e f g h i) = some 21 := rfl
theorem m_load : methOf t.tabs (.loc 0) "load" (pr a b c d e f g h i) = some 22 := rfl
theorem m_stop : methOf t.tabs (.loc 0) "stop" (pr a b c d e f g h i) = some 23 := rfl
theorem m_end : methOf t.tabs (.loc 0) "end" (pr a b c d e f g h i) = some 24 := rfl
theorem m_taken : methOf t.tabs (.loc 0) "taken" (pr a b c d e f g h i) = some 25 := rfl
theorem m_do_next : methOf t.tabs (.loc 0) "do_next" (pr a b c d e f g h i) = some 26 := rfl
theorem m_fail : methOf t.tabs (.loc 0) "fail" (pr a b c d e f g h i) = some 27 := rfl
theorem m_empty : methOf t.tabs (.loc 0) "empty" (pr a b c d e f g h i) = some 28 := rfl
theorem m_go_on : methOf t.tabs (.loc 0) "go_on" (pr a b c d e f g h i) = some 29 := rfl
theorem m_do : methOf t.tabs (.loc 0) "do" (pr a b c d e f g h i) = some 30 := rfl
theorem m_do_late : methOf t.tabs (.loc 0) "do_late" (pr a b c d e f g h i) = some 31 := rfl
theorem p_leans {m : Mo} : attrV t.tabs "leans" m.p M = some (.tup (m.ln.map eL)) := rfl
theorem p_adds {m : Mo} : attrV t.tabs "adds" m.p M = some (.tup (m.ad.map eI)) := rfl
theorem p_helper {m : Mo} : attrV t.tabs "helper" m.p M = some (eI m.hp) := rfl
theorem p_len {m : Mo} : methOf t.tabs m.p "__len__" M = some 10 := rfl
theorem g_ru0 {r : Ru} : subV r.v (.int 0) M = some (.str r.o.s) := rfl
theorem g_ru1 {r : Ru} : subV r.v (.int 1) M = some (.str r.n.s) := rfl
theorem g_ru2 {r : Ru} : subV r.v (.int 2) M = some (.str r.c.s) := rfl
theorem g_ru3 {r : Ru} : subV r.v (.int 3) M = some (.str r.h.s) := rfl
theorem g_ru4 {r : Ru} : subV r.v (.int 4) M = some (.str r.e.s) := rfl
theorem g_s0 {s : S} : subV s.e (.int 0) M = some (.str s.ph.s) := rfl
theorem g_s1 {s : S} : subV s.e (.int 1) M = some (ti s.ld) := rfl
theorem g_s2 {s : S} : subV s.e (.int 2) M = some (ti s.q) := rfl
theorem g_s3 {s : S} : subV s.e (.int 3) M = some (ti s.gn) := rfl
theorem g_s4 {s : S} : subV s.e (.int 4) M = some (eH s.hd) := rfl
theorem g_end : t.tabs.glb "ENDING" = some (.tup [.str Wo.wait.s, .str Wo.deeds.s, .str Wo.names.s]) := by rfl
theorem g_most : t.tabs.glb "MOST_STATES" = some (.int 600) := by rfl
theorem g_parts : t.tabs.glb "MOST_PARTS" = some (.int 3) := by rfl
theorem g_i3 {xs : List PV} : isiV t.tabs (.tup xs) M [.b 3] = some true := rfl
theorem g_i2 {x : Str} : isiV t.tabs (.str x) M [.b 2] = some true := rfl
theorem g_i1 {x : Int} : isiV t.tabs (.int x) M [.b 1] = some true := rfl
theorem g_i0 {x : Int} : isiV t.tabs (.int x) M [.b 0] = some false := rfl
theorem g_iP {m : Mo} : isiV t.tabs m.p M [.c 13] = some true := rfl
theorem s_du : setIV (.loc 0) (.str Wo.uses.s) (.bl true) [.dct false [] []] = some [.dct false [.str Wo.uses.s] [.bl true]] := rfl
theorem s_dl : setIV (.loc 0) (.str Wo.lost.s) (.bl true) [.dct false [] []] = some [.dct false [.str Wo.lost.s] [.bl true]] := rfl
theorem s_dul : setIV (.loc 0) (.str Wo.lost.s) (.bl true) [.dct false [.str Wo.uses.s] [.bl true]] = some [.dct false [.str Wo.uses.s, .str Wo.lost.s] [.bl true, .bl true]] := by rfl
theorem s_frzD {tt : Bool} {ks vs : List PV} : frzV (.loc 0) [.dct tt ks vs] = .ok (.dct tt ks vs) [.dead] := rfl
theorem g_rules : t.tabs.glb "RULES" = some (.tup [.tup [.str Wo.last.s, .str Wo.first.s], .tup [.str Wo.after.s, .str Wo.before.s], .tup [.str Wo.back.s, .str Wo.along.s], .tup [.str Wo.wait.s, .str Wo.cut.s, .str Wo.free.s], .tup [.str Wo.onward.s, .str Wo.drop.s]]) := by rfl
theorem g_ruI {r : Ru} : isiV t.tabs r.v M [.b 3] = some true := rfl
theorem g_ruL {r : Ru} : bltV .len [r.v] M = .ok (.int 5) M := rfl
theorem m_frz : frzV (.loc 0) (pr a b c d e f g h i) = .ok (.obj 14 FL [a, b, c, d, e, f, g, h, i]) [.dead] := rfl
theorem m_init14 : t.tabs.init 14 = 18 := by rfl
theorem m_init13 : t.tabs.init 13 = 8 := by rfl
theorem a_oused : attrV t.tabs "used" (.obj 14 FL [a, b, c, d, e, f, g, h, i]) M = some h := rfl
theorem a_olost : attrV t.tabs "is_lost" (.obj 14 FL [a, b, c, d, e, f, g, h, i]) M = some i := rfl
theorem a_ophase : attrV t.tabs "phase" (.obj 14 FL [a, b, c, d, e, f, g, h, i]) M = some c := rfl
theorem a_oloaded : attrV t.tabs "loaded" (.obj 14 FL [a, b, c, d, e, f, g, h, i]) M = some d := rfl
theorem a_oqueue : attrV t.tabs "queue" (.obj 14 FL [a, b, c, d, e, f, g, h, i]) M = some e := rfl
theorem a_oemptied : attrV t.tabs "emptied" (.obj 14 FL [a, b, c, d, e, f, g, h, i]) M = some f := rfl
theorem a_ohelper : attrV t.tabs "helper" (.obj 14 FL [a, b, c, d, e, f, g, h, i]) M = some g := rfl
theorem m_state_now : methOf t.tabs (.obj 14 FL [a, b, c, d, e, f, g, h, i]) "state_now" M = some 19 := rfl
end
theorem go3 {a0 a1 a2 : PV} {M : Store} {n : Nat} : run P (n + 1) 3 [a0, a1, a2] M = fin (exec t.tabs (run P n) 100000 b3.body [some a0, some a1, some a2] M) := run_at rfl rfl
theorem go4 {a0 a1 : PV} {M : Store} {n : Nat} : run P (n + 1) 4 [a0, a1] M = fin (exec t.tabs (run P n) 100000 b4.body [some a0, some a1] M) := run_at rfl rfl
theorem go5 {a0 a1 : PV} {M : Store} {n : Nat} : run P (n + 1) 5 [a0, a1] M = fin (exec t.tabs (run P n) 100000 b5.body [some a0, some a1, none, none, none] M) := run_at rfl rfl
theorem go6 {a0 : PV} {M : Store} {n : Nat} : run P (n + 1) 6 [a0] M = fin (exec t.tabs (run P n) 100000 b6.body [some a0, none] M) := run_at rfl rfl
theorem go7 {a0 a1 : PV} {M : Store} {n : Nat} : run P (n + 1) 7 [a0, a1] M = fin (exec t.tabs (run P n) 100000 b7.body [some a0, some a1, none, none] M) := run_at rfl rfl
theorem go8 {a0 a1 a2 a3 : PV} {M : Store} {n : Nat} : run P (n + 1) 8 [a0, a1, a2, a3] M = fin (exec t.tabs (run P n) 100000 b8.body [some a0, some a1, some a2, some a3] M) := run_at rfl rfl
theorem go10 {a0 : PV} {M : Store} {n : Nat} : run P (n + 1) 10 [a0] M = fin (exec t.tabs (run P n) 100000 b10.body [some a0] M) := run_at rfl rfl
theorem go14 {a0 : PV} {M : Store} {n : Nat} : run P (n + 1) 14 [a0] M = fin (exec t.tabs (run P n) 100000 b14.body [some a0] M) := run_at rfl rfl
theorem go15 {a0 : PV} {M : Store} {n : Nat} : run P (n + 1) 15 [a0] M = fin (exec t.tabs (run P n) 100000 b15.body [some a0, none, none] M) := run_at rfl rfl
theorem go16 {a0 a1 : PV} {M : Store} {n : Nat} : run P (n + 1) 16 [a0, a1] M = fin (exec t.tabs (run P n) 100000 b16.body [some a0, some a1] M) := run_at rfl rfl
theorem go18 {a0 a1 a2 a3 : PV} {M : Store} {n : Nat} : run P (n + 1) 18 [a0, a1, a2, a3] M = fin (exec t.tabs (run P n) 100000 b18.body [some a0, some a1, some a2, some a3] M) := run_at rfl rfl
theorem go19 {a0 : PV} {M : Store} {n : Nat} : run P (n + 1) 19 [a0] M = fin (exec t.tabs (run P n) 100000 b19.body [some a0] M) := run_at rfl rfl
theorem go20 {a0 a1 : PV} {M : Store} {n : Nat} : run P (n + 1) 20 [a0, a1] M = fin (exec t.tabs (run P n) 100000 b20.body [some a0, some a1] M) := run_at rfl rfl
theorem go21 {a0 : PV} {M : Store} {n : Nat} : run P (n + 1) 21 [a0] M = fin (exec t.tabs (run P n) 100000 b21.body [some a0] M) := run_at rfl rfl
theorem go22 {a0 a1 : PV} {M : Store} {n : Nat} : run P (n + 1) 22 [a0, a1] M = fin (exec t.tabs (run P n) 100000 b22.body [some a0, some a1] M) := run_at rfl rfl
theorem go23 {a0 : PV} {M : Store} {n : Nat} : run P (n + 1) 23 [a0] M = fin (exec t.tabs (run P n) 100000 b23.body [some a0] M) := run_at rfl rfl
theorem go24 {a0 : PV} {M : Store} {n : Nat} : run P (n + 1) 24 [a0] M = fin (exec t.tabs (run P n) 100000 b24.body [some a0] M) := run_at rfl rfl
theorem go25 {a0 : PV} {M : Store} {n : Nat} : run P (n + 1) 25 [a0] M = fin (exec t.tabs (run P n) 100000 b25.body [some a0, none, none] M) := run_at rfl rfl
theorem go26 {a0 : PV} {M : Store} {n : Nat} : run P (n + 1) 26 [a0] M = fin (exec t.tabs (run P n) 100000 b26.body [some a0, none] M) := run_at rfl rfl
theorem go27 {a0 : PV} {M : Store} {n : Nat} : run P (n + 1) 27 [a0] M = fin (exec t.tabs (run P n) 100000 b27.body [some a0] M) := run_at rfl rfl
theorem go28 {a0 : PV} {M : Store} {n : Nat} : run P (n + 1) 28 [a0] M = fin (exec t.tabs (run P n) 100000 b28.body [some a0, none, none] M) := run_at rfl rfl
theorem go29 {a0 : PV} {M : Store} {n : Nat} : run P (n + 1) 29 [a0] M = fin (exec t.tabs (run P n) 100000 b29.body [some a0, none, none] M) := run_at rfl rfl
theorem go30 {a0 a1 : PV} {M : Store} {n : Nat} : run P (n + 1) 30 [a0, a1] M = fin (exec t.tabs (run P n) 100000 b30.body [some a0, some a1, none] M) := run_at rfl rfl
theorem go31 {a0 a1 : PV} {M : Store} {n : Nat} : run P (n + 1) 31 [a0, a1] M = fin (exec t.tabs (run P n) 100000 b31.body [some a0, some a1] M) := run_at rfl rfl
theorem go32 {a0 : PV} {M : Store} {n : Nat} : run P (n + 1) 32 [a0] M = fin (exec t.tabs (run P n) 100000 b32.body [some a0] M) := run_at rfl rfl
theorem go33 {a0 : PV} {M : Store} {n : Nat} : run P (n + 1) 33 [a0] M = fin (exec t.tabs (run P n) 100000 b33.body [some a0] M) := run_at rfl rfl
theorem go34 {a0 a1 : PV} {M : Store} {n : Nat} : run P (n + 1) 34 [a0, a1] M = fin (exec t.tabs (run P n) 100000 b34.body [some a0, some a1, none, none, none, none] M) := run_at rfl rfl
theorem go35 {a0 : PV} {M : Store} {n : Nat} : run P (n + 1) 35 [a0] M = fin (exec t.tabs (run P n) 100000 b35.body [some a0, none, none, none, none, none] M) := run_at rfl rfl
theorem go36 {a0 a1 : PV} {M : Store} {n : Nat} : run P (n + 1) 36 [a0, a1] M = fin (exec t.tabs (run P n) 100000 b36.body [some a0, some a1, none, none] M) := run_at rfl rfl
theorem go37 {a0 a1 a2 a3 : PV} {M : Store} {n : Nat} : run P (n + 1) 37 [a0, a1, a2, a3] M = fin (exec t.tabs (run P n) 100000 b37.body [some a0, some a1, some a2, some a3, none] M) := run_at rfl rfl
theorem go38 {a0 a1 a2 a3 : PV} {M : Store} {n : Nat} : run P (n + 1) 38 [a0, a1, a2, a3] M = fin (exec t.tabs (run P n) 100000 b38.body [some a0, some a1, some a2, some a3, none, none, none] M) := run_at rfl rfl
theorem go39 {a0 a1 a2 : PV} {M : Store} {n : Nat} : run P (n + 1) 39 [a0, a1, a2] M = fin (exec t.tabs (run P n) 100000 b39.body [some a0, some a1, some a2] M) := run_at rfl rfl
theorem go109 {a0 a1 a2 : PV} {M : Store} {n : Nat} : run P (n + 1) 109 [a0, a1, a2] M = fin (exec t.tabs (run P n) 100000 b109.body [some a0, some a1, some a2] M) := run_at rfl rfl
theorem go110 {a0 a1 a2 a3 : PV} {M : Store} {n : Nat} : run P (n + 1) 110 [a0, a1, a2, a3] M = fin (exec t.tabs (run P n) 100000 b110.body [some a0, some a1, some a2, some a3, none, none] M) := run_at rfl rfl
theorem go111 {a0 a1 : PV} {M : Store} {n : Nat} : run P (n + 1) 111 [a0, a1] M = fin (exec t.tabs (run P n) 100000 b111.body [some a0, some a1, none, none] M) := run_at rfl rfl
theorem go112 {a0 a1 : PV} {M : Store} {n : Nat} : run P (n + 1) 112 [a0, a1] M = fin (exec t.tabs (run P n) 100000 b112.body [some a0, some a1] M) := run_at rfl rfl
theorem go114 {a0 a1 a2 a3 : PV} {M : Store} {n : Nat} : run P (n + 1) 114 [a0, a1, a2, a3] M = fin (exec t.tabs (run P n) 100000 b114.body [some a0, some a1, some a2, some a3, none, none, none] M) := run_at rfl rfl
theorem go115 {a0 a1 : PV} {M : Store} {n : Nat} : run P (n + 1) 115 [a0, a1] M = fin (exec t.tabs (run P n) 100000 b115.body [some a0, some a1] M) := run_at rfl rfl
theorem go117 {a0 a1 a2 a3 : PV} {M : Store} {n : Nat} : run P (n + 1) 117 [a0, a1, a2, a3] M = fin (exec t.tabs (run P n) 100000 b117.body [some a0, some a1, some a2, some a3, none, none, none] M) := run_at rfl rfl
theorem go118 {a0 a1 a2 : PV} {M : Store} {n : Nat} : run P (n + 1) 118 [a0, a1, a2] M = fin (exec t.tabs (run P n) 100000 b118.body [some a0, some a1, some a2, none, none, none, none, none, none, none] M) := run_at rfl rfl
theorem go119 {a0 a1 a2 : PV} {M : Store} {n : Nat} : run P (n + 1) 119 [a0, a1, a2] M = fin (exec t.tabs (run P n) 100000 b119.body [some a0, some a1, some a2] M) := run_at rfl rfl
theorem go120 {a0 a1 a2 : PV} {M : Store} {n : Nat} : run P (n + 1) 120 [a0, a1, a2] M = fin (exec t.tabs (run P n) 100000 b120.body [some a0, some a1, some a2, none] M) := run_at rfl rfl
theorem go349 {a0 a1 : PV} {M : Store} {n : Nat} : run P (n + 1) 349 [a0, a1] M = fin (exec t.tabs (run P n) 100000 b349.body [some a0, some a1] M) := run_at rfl rfl
theorem go350 {a0 a1 a2 : PV} {M : Store} {n : Nat} : run P (n + 1) 350 [a0, a1, a2] M = fin (exec t.tabs (run P n) 100000 b350.body [some a0, some a1, some a2, none] M) := run_at rfl rfl
theorem go351 {a0 a1 a2 : PV} {M : Store} {n : Nat} : run P (n + 1) 351 [a0, a1, a2] M = fin (exec t.tabs (run P n) 100000 b351.body [some a0, some a1, some a2, none, none, none, none, none] M) := run_at rfl rfl
theorem go352 {a0 a1 : PV} {M : Store} {n : Nat} : run P (n + 1) 352 [a0, a1] M = fin (exec t.tabs (run P n) 100000 b352.body [some a0, some a1, none, none] M) := run_at rfl rfl
theorem go353 {a0 a1 : PV} {M : Store} {n : Nat} : run P (n + 1) 353 [a0, a1] M = fin (exec t.tabs (run P n) 100000 b353.body [some a0, some a1] M) := run_at rfl rfl
theorem go354 {a0 a1 : PV} {M : Store} {n : Nat} : run P (n + 1) 354 [a0, a1] M = fin (exec t.tabs (run P n) 100000 b354.body [some a0, some a1, none, none, none, none, none, none, none, none] M) := run_at rfl rfl
theorem go355 {a0 : PV} {M : Store} {n : Nat} : run P (n + 1) 355 [a0] M = fin (exec t.tabs (run P n) 100000 b355.body [some a0] M) := run_at rfl rfl
theorem go356 {a0 : PV} {M : Store} {n : Nat} : run P (n + 1) 356 [a0] M = fin (exec t.tabs (run P n) 100000 b356.body [some a0, none, none, none, none] M) := run_at rfl rfl
theorem go357 {a0 : PV} {M : Store} {n : Nat} : run P (n + 1) 357 [a0] M = fin (exec t.tabs (run P n) 100000 b357.body [some a0] M) := run_at rfl rfl
theorem go358 {a0 a1 a2 : PV} {M : Store} {n : Nat} : run P (n + 1) 358 [a0, a1, a2] M = fin (exec t.tabs (run P n) 100000 b358.body [some a0, some a1, some a2, none, none, none, none, none, none, none, none, none] M) := run_at rfl rfl
theorem go359 {a0 a1 : PV} {M : Store} {n : Nat} : run P (n + 1) 359 [a0, a1] M = fin (exec t.tabs (run P n) 100000 b359.body [some a0, some a1] M) := run_at rfl rfl
theorem go360 {a0 a1 a2 a3 a4 : PV} {M : Store} {n : Nat} : run P (n + 1) 360 [a0, a1, a2, a3, a4] M = fin (exec t.tabs (run P n) 100000 b360.body [some a0, some a1, some a2, some a3, some a4, none, none, none, none, none, none, none, none, none, none] M) := run_at rfl rfl
theorem go361 {a0 a1 a2 a3 a4 : PV} {M : Store} {n : Nat} : run P (n + 1) 361 [a0, a1, a2, a3, a4] M = fin (exec t.tabs (run P n) 100000 b361.body [some a0, some a1, some a2, some a3, some a4, none, none, none, none, none, none, none, none, none, none, none, none, none, none, none] M) := run_at rfl rfl
theorem go362 {a0 a1 a2 : PV} {M : Store} {n : Nat} : run P (n + 1) 362 [a0, a1, a2] M = fin (exec t.tabs (run P n) 100000 b362.body [some a0, some a1, some a2, none, none] M) := run_at rfl rfl
theorem go363 {a0 a1 : PV} {M : Store} {n : Nat} : run P (n + 1) 363 [a0, a1] M = fin (exec t.tabs (run P n) 100000 b363.body [some a0, some a1, none, none] M) := run_at rfl rfl
theorem go364 {a0 : PV} {M : Store} {n : Nat} : run P (n + 1) 364 [a0] M = fin (exec t.tabs (run P n) 100000 b364.body [some a0, none, none, none, none, none, none, none] M) := run_at rfl rfl
theorem go365 {a0 a1 : PV} {M : Store} {n : Nat} : run P (n + 1) 365 [a0, a1] M = fin (exec t.tabs (run P n) 100000 b365.body [some a0, some a1, none, none, none] M) := run_at rfl rfl
theorem go366 {a0 a1 : PV} {M : Store} {n : Nat} : run P (n + 1) 366 [a0, a1] M = fin (exec t.tabs (run P n) 100000 b366.body [some a0, some a1, none, none] M) := run_at rfl rfl
theorem go367 {a0 a1 : PV} {M : Store} {n : Nat} : run P (n + 1) 367 [a0, a1] M = fin (exec t.tabs (run P n) 100000 b367.body [some a0, some a1, none, none, none] M) := run_at rfl rfl
theorem go368 {a0 a1 a2 : PV} {M : Store} {n : Nat} : run P (n + 1) 368 [a0, a1, a2] M = fin (exec t.tabs (run P n) 100000 b368.body [some a0, some a1, some a2, none, none, none, none, none, none, none, none, none, none] M) := run_at rfl rfl
theorem go369 {a0 : PV} {M : Store} {n : Nat} : run P (n + 1) 369 [a0] M = fin (exec t.tabs (run P n) 100000 b369.body [some a0, none, none, none, none] M) := run_at rfl rfl
end Zk.K03
-- Zr1_03
namespace Zk.K03
open PySem Zk
local macro_rules | `(tactic| fail_if_success skip) => `(tactic| simp -dsimp -implicitDefEqProofs (disch := (refine id ?_; first | decide | omega | (simp only [List.length_cons, List.length_nil, List.length_append, List.length_map, mostLen, locFL, locF, locFL_ints, locF_eH, locF_eL, locF_eI, locF_e, locF_v, locF_p, locF_m, locF_stp, locFL_stp,  locF_mk, locF_mkL, locF_pe, locF_eP, Bool.and_self]; done) | (simp only [List.length_cons, List.length_nil, List.length_append, List.length_map, mostLen, locFL, locF, locFL_ints, locF_eH, locF_eL, locF_eI, locF_e, locF_v, locF_p, locF_m, locF_stp, locFL_stp,  locF_mk, locF_mkL, locF_pe, locF_eP, Bool.and_self]; omega) | (simp only [List.length_cons, List.length_nil, List.length_append, List.length_map, mostLen, locFL, locF, locFL_ints, locF_eH, locF_eL, locF_eI, locF_e, locF_v, locF_p, locF_m, locF_stp, locFL_stp,  locF_mk, locF_mkL, locF_pe, locF_eP, Bool.and_self, *]; done) | fail)) only [
  ↓ev_anil, ↓ev_acons, ↓ev_astar, ↓ev_var, ↓ev_cst, ↓ev_glb, ↓ev_tup', ↓ev_lst', ↓ev_lstM', ↓ev_dct0, ↓ev_dct1, ↓ev_bop, ↓ev_neg, ↓ev_cmp, ↓ev_chain, ↓ev_isN, ↓ev_notN, ↓ev_notT, ↓ev_notE, ↓ev_dne, ↓ev_lenO, ↓ev_and, ↓ev_or, ↓ev_ife, ↓ev_attr, ↓ev_sub, ↓ev_slc, ↓ev_rev, ↓ev_call, ↓ev_make, ↓ev_mkK, ↓ev_meth, ↓ev_blt_q, ↓ev_bm_q, ↓ev_isi, ↓ev_lc, ↓ev_dc, ↓ev_frz,
  ↓ex_nil, ↓ex_cons, ↓ex_expr, ↓ex_set, ↓ex_asg, ↓ex_par, ↓ex_setA, ↓ex_asgA, ↓ex_setI, ↓ex_ret, ↓ex_retN, ↓ex_ife, ↓ex_for, ↓ex_pass, ↓ex_cont,
  ↓look_z, ↓look_s, ↓setS_z, ↓setS_s, setMany_n, ↓setMany_c, bargs_tup, bind_ok, toS_ok, then_nx, then_rt, fin_nx, fin_rt, of_some, ofB_some_q, br_bl, optB_some, optS_some, optM_some, asgS_tup, asgAS_tup, chainV_some, bind_ite, toS_ite, then_ite, fin_ite, ok_bl_ite, ok_word_ite, fst_fold, Option.isNone_none, Option.isNone_some, Option.isSome_none, Option.isSome_some,
  thaw_tup_q, thaw_lst, thaw_str, thaw_int, thaw_non, seqV_tup, seqV_lst, len_tup, len_lst, lt_int, le_int, gt_int, ge_int, eq_int, ne_int, cmp_in, cmp_notin, eq_word, ne_word, eq_hand, eq_eI, ne_ti_nil, in_ti, bop_add, bop_sub, neg_int, not_bl, sub_tup, sub_lst, at0, at5_1, at5_2, at5_3, at5_4, at2_1, at3_1, at3_2, at_map, slc_tup, slc_lst, cut_map, part_none, part_int, isAnil_anil, isAnil_cst, isAnil_var, isAnil_neg, isAnil_bop, isNV_eL, isNV_eI, isNV_non, isNV_tup, isNV_lst, isNV_int, tupV_ok, lstV_ok, lstMV_ok, isoEnd_ok, callT, callF, bop_addT, bop_addL,
  lcTurn_eq, turnV_bl, valO_ok, setT_one, setT_many, wipeS_n, ↓wipeS_c, wip_z, wip_s, all_bl, any_bl, srt_ints, srt_intsT, tupl_lst, tupl_tup, lstF_lst, lstF_tup, lrng_int, walk_tup, walk_lst, walk_rng, walk_zipT, walk_zipL, lenEnd_int, cast_0, cast_1, cast_2, cast_3, cast_5, Bool.and_self, ↓len_t0, ↓len_t1, ↓len_t2, ↓len_t5, Nat.reduceAdd, Int.reduceLE, Int.reduceLT, Int.reduceEq, Int.reduceAdd, Int.reduceSub, Int.reduceNeg, Int.reduceMul, mm_0, mm_1, mm_2, st_ld0, st_ld1, st_ag0, st_ag1, st_w0, ne_li_nil, eq_um, lc_nil, ne_nil_nil,  in_w3, in_stps, ne_ti, eq_ti, dne_mk, isNV_eP, pe_0, pe_1, asg_se, slc_se, makeF, mkEnd_ok, makeT, mkEndT_ok,
  Option.map_some, Bool.not_not, if_true, if_false, ↓reduceIte, List.append_nil, List.cons_append, List.nil_append, List.length_map, List.length_cons, List.length_nil, decide_eq_true_eq, Bool.not_true, Bool.not_false, reduceCtorEq, decide_false, decide_true, Bool.false_eq_true, List.singleton_append, map_snoc, map_app, Option.some.injEq, and_true, true_and, and_false, false_and, g_mq, a_plan, a_rules, a_phase, a_loaded, a_queue, a_emptied, a_helper, s_phase, s_loaded, s_queue, s_emptied, s_helper, s_used, s_lost, m_enqueue, m_begin, m_load, m_stop, m_end, m_taken, m_do_next, m_fail, m_empty, m_go_on, m_do, m_do_late, p_leans, p_adds, p_helper, p_len, g_ru0, g_ru1, g_ru2, g_ru3, g_ru4, g_s0, g_s1, g_s2, g_s3, g_s4, g_end, g_most, g_parts, g_i3, g_i2, g_i1, g_i0, g_iP, s_du, s_dl, s_dul, s_frzD, g_rules, g_ruI, g_ruL, m_frz, m_init14, m_init13, a_oused, a_olost, a_ophase, a_oloaded, a_oqueue, a_oemptied, a_ohelper, m_state_now, b3, b4, b5, b6, b7, b8, b10, b14, b15, b16, b18, b19, b20, b21, b22, b23, b24, b25, b26, b27, b28, b29, b30, b31, b32, b33, b34, b35, b36, b37, b38, b39, b109, b110, b111, b112, b114, b115, b117, b118, b119, b120, b349, b350, b351, b352, b353, b354, b355, b356, b357, b358, b359, b360, b361, b362, b363, b364, b365, b366, b367, b368, b369, *])

section
variable {a b c d e f g h i : PV} {q ld gn : List Int} {p : Int} {n : Nat} {r : Ru} {m : Mo} {M : Store} {ph : Wo} {hd : Option Wo}
theorem r_enq (hq : q.length ≤ 3) : run P (n + 1) 20 [.loc 0, .int p] (pr a b c d (ti q) f g h i) = .ok .non (pr a b c d (ti (enqF q p)) f g h i) := by
  simp only [go20]
  (fail_if_success skip)
  unfold enqF
  by_cases h3 : q.length < 3
  · rw [if_pos (by omega), if_pos h3]
  · rw [if_neg (by omega), if_neg h3]
theorem r_phases : run P (n + 1) 32 [r.v] M = .ok (.tup [.str (fstPh r).s, .str (sndPh r).s]) M := by
  simp only [go32]
  (fail_if_success skip)
  unfold fstPh sndPh
  by_cases h : r.n = .after
  · simp only [h, if_true]
  · simp only [h, if_false]
theorem r_begin : run P (n + 2) 21 [.loc 0] (pr a r.v c d e f g h i) = .ok .non (pr a r.v (.str (fstPh r).s) d e f g h i) := by
  simp only [go21]
  (fail_if_success skip)
  simp only [r_phases]
  (fail_if_success skip)
theorem r_load {o : Option (List Int)} (hp : atI m.ln p = some o) (hl : ld.length ≤ 3) (hq : q.length ≤ 3) : run P (n + 2) 22 [.loc 0, .int p] (pr m.p b c (ti ld) (ti q) f (eH hd) h i) = .ok .non (pr m.p b c (ti (ld ++ [p])) (ti (if o.isSome then enqF q p else q)) f (eH (if m.hp = some p then some .on else hd)) h i) := by
  simp only [go22]
  (fail_if_success skip)
  cases o with
  | none =>
    simp only [Option.isNone_none, Bool.not_true, Bool.false_eq_true, if_false, Option.isSome_none]
    try (fail_if_success skip)
    by_cases hh : m.hp = some p
    · simp only [hh, if_true]; rfl
    · simp only [hh, if_false]
  | some o =>
    simp only [Option.isNone_some, Bool.not_false, if_true, Option.isSome_some]
    simp only [r_enq hq]
    (fail_if_success skip)
    by_cases hh : m.hp = some p
    · simp only [hh, if_true]; rfl
    · simp only [hh, if_false]
theorem r_stop : run P (n + 3) 23 [.loc 0] (pr a r.v (.str ph.s) d e f g h i) = .ok .non (pr a r.v (.str (if ph = .wait then fstPh r else ph).s) d e f (.str Wo.off.s) h i) := by
  simp only [go23]
  (fail_if_success skip)
  simp only [r_begin]
  (fail_if_success skip)
  by_cases hh : ph = .wait
  · simp only [hh, if_true]
  · simp only [hh, if_false]
theorem r_end : run P (n + 3) 24 [.loc 0] (pr a r.v (.str ph.s) d e f (eH hd) h i) = .ok .non (pr a r.v (.str (if hd = some .on ∧ r.h = .wait then Wo.wait else fstPh r).s) d e f (eH (if hd = some .on ∧ r.h = .cut then some .off else hd)) h i) := by
  simp only [go24]
  by_cases hh : hd = some .on
  · by_cases h1 : r.h = .wait
    · (fail_if_success skip)
    · by_cases h2 : r.h = .cut
      · (fail_if_success skip)
        simp only [r_begin]
        (fail_if_success skip)
        rfl
      · (fail_if_success skip)
        simp only [r_begin]
        (fail_if_success skip)
  · (fail_if_success skip)
    simp only [r_begin]
    (fail_if_success skip)
theorem r_taken (hq : q ≠ []) (hl : q.length ≤ 3) : run P (n + 1) 25 [.loc 0] (pr a r.v c d (ti q) f g h i) = .ok (.int (tkP r q)) (pr a r.v c d (ti (tkQ r q)) f g h i) := by
  have e1 := tk_at (r := r) hq
  have l1 : (cut q none (some (tkAt r q)) ++ cut q (some (tkAt r q + 1)) none).length ≤ 6 := by
    simp only [cut, List.length_append, List.length_take, List.length_drop]; omega
  have l2 : (cut q none (some (tkAt r q))).length + (cut q (some (tkAt r q + 1)) none).length ≤ 1000000 := by
    rw [List.length_append] at l1
    omega
  unfold tkQ
  simp only [go25]
  by_cases hh : r.o = .last
  · have ea : tkAt r q = (q.length : Int) - 1 := if_pos hh
    rw [ea] at e1 l1 l2 ⊢
    (fail_if_success skip)
  · have ea : tkAt r q = 0 := if_neg hh
    rw [ea] at e1 l1 l2 ⊢
    rw [show (0 : Int) + 1 = 1 from rfl] at l1 l2
    (fail_if_success skip)
theorem r_do_next {l : List Int} {o : Option Int} (hq : q ≠ []) (hl : q.length ≤ 3) (h1 : atI m.ln (tkP r q) = some (some l)) (h2 : atI m.ad (tkP r q) = some o) : run P (n + 3) 26 [.loc 0] (pr m.p r.v c d (ti q) f g h i) = .ok .non (pr m.p r.v c d (ti (addF (tkQ r q) o)) f g (ti l) i) := by
  have l1 : (tkQ r q).length ≤ 3 := by rw [tkQ_len hq]; omega
  simp only [go26]
  (fail_if_success skip)
  simp only [r_taken hq hl]
  (fail_if_success skip)
  cases o with
  | none =>
    simp only [Option.isNone_none, Bool.not_true, Bool.false_eq_true, if_false]
    rfl
  | some x =>
    simp only [eI, r_enq l1, Option.isNone_some, Bool.not_false, if_true]
    (fail_if_success skip)
    rfl
theorem r_fail (hq : q ≠ []) (hl : q.length ≤ 3) : run P (n + 2) 27 [.loc 0] (pr a r.v c d (ti q) f g h (.bl false)) = .ok .non (pr a r.v c d (ti (if r.e = .drop then [] else tkQ r q)) f g h (.bl (decide (r.e = .drop) && !(tkQ r q).isEmpty))) := by
  simp only [go27]
  (fail_if_success skip)
  simp only [r_taken hq hl]
  (fail_if_success skip)
  by_cases hh : r.e = .drop
  · simp only [hh, if_true, decide_true, Bool.true_and]; rfl
  · simp only [hh, if_false, decide_false, Bool.false_and]
theorem r_empty (hg : gn.length ≤ 3) (hl : ld.length ≤ 3) (hne : leftF ld gn ≠ []) : run P (n + 1) 28 [.loc 0] (pr a r.v c (ti ld) e (ti gn) g h i) = .ok .non (pr a r.v c (ti ld) e (ti (srtI (gn ++ [nextN r ld gn]))) g h i) := by
  obtain ⟨x, y, e1, e2⟩ := leftF_at hne
  have en : nextN r ld gn = if r.c = .back then x else y := by unfold nextN; rw [e1, e2]; rfl
  rw [en]
  simp only [go28]
  (fail_if_success skip)
  rw [lc_map (fun p => !gn.contains p) PV.int (fun x hx => by (fail_if_success skip); cases gn.contains x <;> rfl) (by unfold mostLen; omega)]
  rw [← show leftF ld gn = ld.filter fun p => !gn.contains p from rfl]
  by_cases hh : r.c = .back
  · (fail_if_success skip)
  · (fail_if_success skip)
theorem r_go_on : run P (n + 2) 29 [.loc 0] (pr a r.v (.str ph.s) d e f g h i) = .ok .non (pr a r.v (.str (if ph = fstPh r then sndPh r else .over).s) d e f g h i) := by
  simp only [go29]
  (fail_if_success skip)
  simp only [r_phases]
  (fail_if_success skip)
end
end Zk.K03
-- Zr2_03
namespace Zk.K03
open PySem Zk
local macro_rules | `(tactic| fail_if_success skip) => `(tactic| simp -dsimp -implicitDefEqProofs (disch := (refine id ?_; first | decide | omega | (simp only [List.length_cons, List.length_nil, List.length_append, List.length_map, mostLen, locFL, locF, locFL_ints, locF_eH, locF_eL, locF_eI, locF_e, locF_v, locF_p, locF_m, locF_stp, locFL_stp,  locF_mk, locF_mkL, locF_pe, locF_eP, Bool.and_self]; done) | (simp only [List.length_cons, List.length_nil, List.length_append, List.length_map, mostLen, locFL, locF, locFL_ints, locF_eH, locF_eL, locF_eI, locF_e, locF_v, locF_p, locF_m, locF_stp, locFL_stp,  locF_mk, locF_mkL, locF_pe, locF_eP, Bool.and_self]; omega) | (simp only [List.length_cons, List.length_nil, List.length_append, List.length_map, mostLen, locFL, locF, locFL_ints, locF_eH, locF_eL, locF_eI, locF_e, locF_v, locF_p, locF_m, locF_stp, locFL_stp,  locF_mk, locF_mkL, locF_pe, locF_eP, Bool.and_self, *]; done) | fail)) only [
  ↓ev_anil, ↓ev_acons, ↓ev_astar, ↓ev_var, ↓ev_cst, ↓ev_glb, ↓ev_tup', ↓ev_lst', ↓ev_lstM', ↓ev_dct0, ↓ev_dct1, ↓ev_bop, ↓ev_neg, ↓ev_cmp, ↓ev_chain, ↓ev_isN, ↓ev_notN, ↓ev_notT, ↓ev_notE, ↓ev_dne, ↓ev_lenO, ↓ev_and, ↓ev_or, ↓ev_ife, ↓ev_attr, ↓ev_sub, ↓ev_slc, ↓ev_rev, ↓ev_call, ↓ev_make, ↓ev_mkK, ↓ev_meth, ↓ev_blt_q, ↓ev_bm_q, ↓ev_isi, ↓ev_lc, ↓ev_dc, ↓ev_frz,
  ↓ex_nil, ↓ex_cons, ↓ex_expr, ↓ex_set, ↓ex_asg, ↓ex_par, ↓ex_setA, ↓ex_asgA, ↓ex_setI, ↓ex_ret, ↓ex_retN, ↓ex_ife, ↓ex_for, ↓ex_pass, ↓ex_cont,
  ↓look_z, ↓look_s, ↓setS_z, ↓setS_s, setMany_n, ↓setMany_c, bargs_tup, bind_ok, toS_ok, then_nx, then_rt, fin_nx, fin_rt, of_some, ofB_some_q, br_bl, optB_some, optS_some, optM_some, asgS_tup, asgAS_tup, chainV_some, bind_ite, toS_ite, then_ite, fin_ite, ok_bl_ite, ok_word_ite, fst_fold, Option.isNone_none, Option.isNone_some, Option.isSome_none, Option.isSome_some,
  thaw_tup_q, thaw_lst, thaw_str, thaw_int, thaw_non, seqV_tup, seqV_lst, len_tup, len_lst, lt_int, le_int, gt_int, ge_int, eq_int, ne_int, cmp_in, cmp_notin, eq_word, ne_word, eq_hand, eq_eI, ne_ti_nil, in_ti, bop_add, bop_sub, neg_int, not_bl, sub_tup, sub_lst, at0, at5_1, at5_2, at5_3, at5_4, at2_1, at3_1, at3_2, at_map, slc_tup, slc_lst, cut_map, part_none, part_int, isAnil_anil, isAnil_cst, isAnil_var, isAnil_neg, isAnil_bop, isNV_eL, isNV_eI, isNV_non, isNV_tup, isNV_lst, isNV_int, tupV_ok, lstV_ok, lstMV_ok, isoEnd_ok, callT, callF, bop_addT, bop_addL,
  lcTurn_eq, turnV_bl, valO_ok, setT_one, setT_many, wipeS_n, ↓wipeS_c, wip_z, wip_s, all_bl, any_bl, srt_ints, srt_intsT, tupl_lst, tupl_tup, lstF_lst, lstF_tup, lrng_int, walk_tup, walk_lst, walk_rng, walk_zipT, walk_zipL, lenEnd_int, cast_0, cast_1, cast_2, cast_3, cast_5, Bool.and_self, ↓len_t0, ↓len_t1, ↓len_t2, ↓len_t5, Nat.reduceAdd, Int.reduceLE, Int.reduceLT, Int.reduceEq, Int.reduceAdd, Int.reduceSub, Int.reduceNeg, Int.reduceMul, mm_0, mm_1, mm_2, st_ld0, st_ld1, st_ag0, st_ag1, st_w0, ne_li_nil, eq_um, lc_nil, ne_nil_nil,  in_w3, in_stps, ne_ti, eq_ti, dne_mk, isNV_eP, pe_0, pe_1, asg_se, slc_se, makeF, mkEnd_ok, makeT, mkEndT_ok,
  Option.map_some, Bool.not_not, if_true, if_false, ↓reduceIte, List.append_nil, List.cons_append, List.nil_append, List.length_map, List.length_cons, List.length_nil, decide_eq_true_eq, Bool.not_true, Bool.not_false, reduceCtorEq, decide_false, decide_true, Bool.false_eq_true, List.singleton_append, map_snoc, map_app, Option.some.injEq, and_true, true_and, and_false, false_and, g_mq, a_plan, a_rules, a_phase, a_loaded, a_queue, a_emptied, a_helper, s_phase, s_loaded, s_queue, s_emptied, s_helper, s_used, s_lost, m_enqueue, m_begin, m_load, m_stop, m_end, m_taken, m_do_next, m_fail, m_empty, m_go_on, m_do, m_do_late, p_leans, p_adds, p_helper, p_len, g_ru0, g_ru1, g_ru2, g_ru3, g_ru4, g_s0, g_s1, g_s2, g_s3, g_s4, g_end, g_most, g_parts, g_i3, g_i2, g_i1, g_i0, g_iP, s_du, s_dl, s_dul, s_frzD, g_rules, g_ruI, g_ruL, m_frz, m_init14, m_init13, a_oused, a_olost, a_ophase, a_oloaded, a_oqueue, a_oemptied, a_ohelper, m_state_now, b3, b4, b5, b6, b7, b8, b10, b14, b15, b16, b18, b19, b20, b21, b22, b23, b24, b25, b26, b27, b28, b29, b30, b31, b32, b33, b34, b35, b36, b37, b38, b39, b109, b110, b111, b112, b114, b115, b117, b118, b119, b120, b349, b350, b351, b352, b353, b354, b355, b356, b357, b358, b359, b360, b361, b362, b363, b364, b365, b366, b367, b368, b369, *])

section
variable {a b c d e f g h i : PV} {n : Nat} {r : Ru} {m : Mo} {M : Store} {s : S} {st : Stp}
/-- the program behind a step -/
def oe (m : Mo) (r : Ru) (o : Out) : PV := .obj 14 FL [m.p, r.v, .str o.s.ph.s, ti o.s.ld, ti o.s.q, ti o.s.gn, eH o.s.hd, ti o.u, .bl o.l]
def po (m : Mo) (r : Ru) (o : Out) : Store := pr m.p r.v (.str o.s.ph.s) (ti o.s.ld) (ti o.s.q) (ti o.s.gn) (eH o.s.hd) (ti o.u) (.bl o.l)
theorem r_init : run P (n + 1) 18 [.loc 0, m.p, r.v, s.e] [.ins 14 [] []] = .ok .non (po m r ⟨s, [], false⟩) := by
  simp only [go18]
  rfl
theorem stp_facts (hm : m.Ok) (hs : s.Ok m) (h : st ∈ stepsP m s) : (∀ p, st = .ld p → ∃ o, atI m.ln p = some o) ∧ (st = .w .do_ ∨ st = .w .fail → s.q ≠ []) ∧ (st = .w .empty → leftF s.ld s.gn ≠ []) ∧ (st = .w .work → s.hd = some .on) := by
  unfold stepsP at h
  by_cases hr : s.ph = .run
  · rw [if_pos hr] at h
    unfold runS helpS at h
    simp only [List.mem_append, List.mem_map, List.mem_filter, List.mem_singleton] at h
    refine ⟨fun p e => ?_, fun e => ?_, fun e => ?_, fun e => ?_⟩
    · subst e
      rcases h with ((⟨x, ⟨h1, _⟩, h2⟩ | ⟨x, _, h2⟩) | h2) | h2
      · cases h2
        obtain ⟨h3, h4⟩ := mem_rng.mp h1
        exact atI_of h3 h4
      · cases h2
      · split at h2 <;> simp at h2
      · cases h2
    · rcases h with ((⟨x, ⟨h1, _⟩, h2⟩ | ⟨x, _, h2⟩) | h2) | h2
      · subst h2; rcases e with e | e <;> cases e
      · subst h2; rcases e with e | e <;> cases e
      · split at h2
        · rcases e with rfl | rfl <;> simp at h2
        · simp at h2
      · rcases e with rfl | rfl <;> cases h2
    · subst e
      rcases h with ((⟨x, ⟨h1, _⟩, h2⟩ | ⟨x, _, h2⟩) | h2) | h2
      · cases h2
      · cases h2
      · split at h2 <;> simp at h2
      · cases h2
    · subst e
      rcases h with ((⟨x, ⟨h1, _⟩, h2⟩ | ⟨x, _, h2⟩) | h2) | h2
      · cases h2
      · cases h2
      · split at h2
        · rename_i z; exact z.1
        · simp at h2
      · cases h2
  · rw [if_neg hr] at h
    unfold helpS endS at h
    simp only [List.mem_append] at h
    refine ⟨fun p e => ?_, fun e => ?_, fun e => ?_, fun e => ?_⟩
    · subst e
      rcases h with h | h | h
      · split at h <;> simp at h
      · split at h
        · split at h <;> simp at h
        · split at h
          · split at h <;> simp at h
          · simp at h
      · split at h <;> simp at h
    · rcases h with h | h | h
      · split at h
        · rcases e with rfl | rfl <;> simp at h
        · simp at h
      · split at h
        · split at h
          · rcases e with rfl | rfl <;> simp at h
          · rename_i z; intro y; rw [y] at z; exact z rfl
        · split at h
          · split at h <;> rcases e with rfl | rfl <;> simp at h
          · simp at h
      · split at h
        · rcases e with rfl | rfl <;> simp at h
        · simp at h
    · subst e
      rcases h with h | h | h
      · split at h <;> simp at h
      · split at h
        · split at h <;> simp at h
        · split at h
          · split at h
            · rename_i z; exact (left_iff hs).mpr z
            · simp at h
          · simp at h
      · split at h <;> simp at h
    · subst e
      rcases h with h | h | h
      · split at h
        · rename_i z; exact z.1
        · simp at h
      · split at h
        · split at h <;> simp at h
        · split at h
          · split at h <;> simp at h
          · simp at h
      · split at h <;> simp at h
theorem stp_word {x : Wo} (h : Stp.w x ∈ stepsP m s) : x = .work ∨ x = .stop ∨ x = .end_ ∨ x = .do_ ∨ x = .fail ∨ x = .empty ∨ x = .next ∨ x = .bell := by
  unfold stepsP runS helpS endS at h
  split at h
  · simp only [List.mem_append, List.mem_map, List.mem_singleton] at h
    rcases h with ((⟨_, _, h2⟩ | ⟨_, _, h2⟩) | h2) | h2
    · cases h2
    · cases h2
    · split at h2
      · simp at h2; rcases h2 with rfl | rfl <;> simp
      · simp at h2
    · cases h2; simp
  · simp only [List.mem_append] at h
    rcases h with h | h | h
    · split at h
      · simp at h; rcases h with rfl | rfl <;> simp
      · simp at h
    · split at h
      · split at h
        · simp at h; subst h; simp
        · simp at h; rcases h with rfl | rfl <;> simp
      · split at h
        · split at h <;> (simp at h; subst h; simp)
        · simp at h
    · split at h
      · simp at h; subst h; simp
      · simp at h
theorem r_do (hm : m.Ok) (hs : s.Ok m) (h : st ∈ stepsP m s) : run P (n + 5) 30 [.loc 0, st.e] (po m r ⟨s, [], false⟩) = .ok .non (po m r (didP m r s st)) := by
  obtain ⟨f1, f2, f3, f4⟩ := stp_facts hm hs h
  have q3 := hs.q3
  have l3 := hs.l3 hm
  have g3 := hs.g3 hm
  simp only [go30]
  unfold po
  cases st with
  | ld p =>
    obtain ⟨o, ho⟩ := f1 p rfl
    have eo : hasD m p = o.isSome := by unfold hasD; rw [ho]; cases o <;> rfl
    unfold Stp.e didP
    (fail_if_success skip)
    simp only [r_load ho l3 q3]
    (fail_if_success skip)
  | ag p =>
    unfold Stp.e didP
    (fail_if_success skip)
    simp only [r_enq q3]
    (fail_if_success skip)
  | w x =>
    rcases stp_word h with rfl | rfl | rfl | rfl | rfl | rfl | rfl | rfl
    · have hh := f4 rfl
      unfold Stp.e didP didW
      cases hp : m.hp with
      | none => have := hs.hn.mpr hp; rw [this] at hh; cases hh
      | some y => (fail_if_success skip); rfl
    · unfold Stp.e didP didW
      (fail_if_success skip)
      simp only [r_stop]
      (fail_if_success skip)
      rfl
    · unfold Stp.e didP didW
      (fail_if_success skip)
      simp only [r_end]
      (fail_if_success skip)
    · have hq := f2 (.inl rfl)
      have hd := hs.qd _ (tkP_mem (r := r) hq)
      unfold Stp.e didP didW
      (fail_if_success skip)
      simp only [go31]
      (fail_if_success skip)
      simp only [r_do_next hq q3 (hasD_some hd.2) (ad_some hm hd.1 hd.2)]
      (fail_if_success skip)
    · have hq := f2 (.inr rfl)
      unfold Stp.e didP didW
      (fail_if_success skip)
      simp only [go31]
      (fail_if_success skip)
      rw [show ti [] = PV.tup [] from rfl]
      simp only [r_fail hq q3]
      (fail_if_success skip)
    · have hq := f3 rfl
      unfold Stp.e didP didW
      (fail_if_success skip)
      simp only [go31]
      (fail_if_success skip)
      simp only [r_empty g3 l3 hq]
      (fail_if_success skip)
    · unfold Stp.e didP didW
      (fail_if_success skip)
      simp only [go31]
      (fail_if_success skip)
      simp only [r_go_on]
      (fail_if_success skip)
    · unfold Stp.e didP didW
      (fail_if_success skip)
      simp only [go31]
      (fail_if_success skip)
theorem r_done (hm : m.Ok) (hs : s.Ok m) (h : st ∈ stepsP m s) : run P (n + 6) 37 [m.p, r.v, s.e, st.e] [] = .ok (oe m r (didP m r s st)) [.dead] := by
  have e1 := r_do (n := n) (r := r) hm hs h
  unfold po at e1
  simp only [go37]
  (fail_if_success skip)
  simp only [r_init, po]
  (fail_if_success skip)
  rfl
theorem r_state_now {o : Out} : run P (n + 1) 19 [oe m r o] M = .ok o.s.e M := by
  simp only [go19, oe]
  (fail_if_success skip)
  rfl
theorem r_len : run P (n + 1) 10 [m.p] M = .ok (.int m.ln.length) M := by
  simp only [go10]
  (fail_if_success skip)
theorem r_start : run P (n + 1) 33 [m.p] M = .ok (S.e ⟨.run, [], [], [], if m.hp = none then none else some .new⟩) M := by
  simp only [go33]
  (fail_if_success skip)
  cases m.hp <;> rfl
theorem runS_e : (runS m s).map Stp.e = ((parts m).filter fun p => !s.ld.contains p).map (fun p => PV.tup [.str Wo.load.s, .int p]) ++ ((parts m).filter fun p => s.ld.contains p && hasD m p).map (fun p => PV.tup [.str Wo.again.s, .int p]) := by
  unfold runS
  rw [List.map_append, List.map_map, List.map_map]
  rfl
theorem parts_len : (parts m).length = m.ln.length := rng_len
theorem r_run_steps (hm : m.Ok) : run P (n + 2) 34 [m.p, s.e] [] = .ok (.lst ((runS m s).map Stp.e)) [] := by
  have l3 := hm.l3
  have h0 : (0 : Int) ≤ m.ln.length := by omega
  have h1 : (m.ln.length : Int) < 1000000 := by omega
  have h2 : m.ln.length ≤ 1000000 := by omega
  have h5 : (rng m.ln.length).length ≤ mostLen := by rw [rng_len]; unfold mostLen; omega
  have h6 := List.length_filter_le (fun p => !s.ld.contains p) (parts m)
  have h7 := List.length_filter_le (fun p => s.ld.contains p && hasD m p) (parts m)
  rw [parts_len] at h6 h7
  rw [runS_e]
  simp only [go34]
  (fail_if_success skip)
  simp only [r_len]
  (fail_if_success skip)
  rw [lc_map (fun p => !s.ld.contains p) (fun p => PV.tup [.str Wo.load.s, .int p]) (fun x hx => by (fail_if_success skip); cases s.ld.contains x <;> rfl) h5]
  (fail_if_success skip)
  rw [lc_map (fun p => s.ld.contains p && hasD m p) (fun p => PV.tup [.str Wo.again.s, .int p]) (fun x hx => by
    obtain ⟨x1, x2⟩ := mem_rng.mp hx
    obtain ⟨o, ho⟩ := atI_of (l := m.ln) x1 x2
    have eo : hasD m x = o.isSome := by unfold hasD; rw [ho]; cases o <;> rfl
    (fail_if_success skip)
    cases s.ld.contains x <;> cases o <;> rfl) h5]
  unfold parts at h6 h7 ⊢
  (fail_if_success skip)
theorem r_end_steps : run P (n + 1) 35 [s.e] [] = .ok (.lst ((endS s).map Stp.e)) [] := by
  simp only [go35]
  unfold endS
  by_cases h1 : s.ph = .deeds
  · cases h2 : s.q.isEmpty <;> ((fail_if_success skip); rfl)
  · by_cases h3 : s.ph = .names
    · by_cases h4 : s.gn.length < s.ld.length
      · have h5 : (s.gn.length : Int) < s.ld.length := by omega
        (fail_if_success skip); rfl
      · have h5 : ¬ (s.gn.length : Int) < s.ld.length := by omega
        (fail_if_success skip); rfl
    · by_cases h6 : s.ph = .wait
      · (fail_if_success skip); rfl
      · (fail_if_success skip)
        simp
theorem r_steps_of (hm : m.Ok) : run P (n + 3) 36 [m.p, s.e] [] = .ok (.lst ((stepsP m s).map Stp.e)) [] := by
  have h6 := List.length_filter_le (fun p => !s.ld.contains p) (parts m)
  have h7 := List.length_filter_le (fun p => s.ld.contains p && hasD m p) (parts m)
  rw [parts_len] at h6 h7
  have l3 := hm.l3
  have h8 : (runS m s).length ≤ 6 := by
    unfold runS
    simp only [List.length_append, List.length_map]
    omega
  have h9 : (endS s).length ≤ 6 := by
    unfold endS
    simp only [List.length_append]
    repeat' split
    all_goals simp
  simp only [go36]
  unfold stepsP helpS
  by_cases h1 : s.ph = .run
  · (fail_if_success skip)
    simp only [r_run_steps hm]
    by_cases h2 : s.hd = some .on
    · (fail_if_success skip)
      simp [Stp.e]
    · (fail_if_success skip)
      simp [Stp.e]
  · by_cases h2 : s.hd = some .on
    · by_cases h3 : s.ph = .over
      · (fail_if_success skip)
        simp only [r_end_steps]
        (fail_if_success skip)
        simp [h3]
      · (fail_if_success skip)
        simp only [r_end_steps]
        (fail_if_success skip)
        simp [h3, Stp.e]
    · (fail_if_success skip)
      simp only [r_end_steps]
      (fail_if_success skip)
theorem stepsP_len (hm : m.Ok) : (stepsP m s).length ≤ 15 := by
  have h6 := List.length_filter_le (fun p => !s.ld.contains p) (parts m)
  have h7 := List.length_filter_le (fun p => s.ld.contains p && hasD m p) (parts m)
  rw [parts_len] at h6 h7
  have l3 := hm.l3
  unfold stepsP helpS runS endS
  simp only [apply_ite List.length, List.length_append, List.length_map, List.length_cons, List.length_nil]
  repeat' split
  all_goals omega
end
end Zk.K03
-- Zr3_03
namespace Zk.K03
open PySem Zk
local macro_rules | `(tactic| fail_if_success skip) => `(tactic| simp -dsimp -implicitDefEqProofs (disch := (refine id ?_; first | decide | omega | (simp only [List.length_cons, List.length_nil, List.length_append, List.length_map, mostLen, locFL, locF, locFL_ints, locF_eH, locF_eL, locF_eI, locF_e, locF_v, locF_p, locF_m, locF_stp, locFL_stp,  locF_mk, locF_mkL, locF_pe, locF_eP, Bool.and_self]; done) | (simp only [List.length_cons, List.length_nil, List.length_append, List.length_map, mostLen, locFL, locF, locFL_ints, locF_eH, locF_eL, locF_eI, locF_e, locF_v, locF_p, locF_m, locF_stp, locFL_stp,  locF_mk, locF_mkL, locF_pe, locF_eP, Bool.and_self]; omega) | (simp only [List.length_cons, List.length_nil, List.length_append, List.length_map, mostLen, locFL, locF, locFL_ints, locF_eH, locF_eL, locF_eI, locF_e, locF_v, locF_p, locF_m, locF_stp, locFL_stp,  locF_mk, locF_mkL, locF_pe, locF_eP, Bool.and_self, *]; done) | fail)) only [
  ↓ev_anil, ↓ev_acons, ↓ev_astar, ↓ev_var, ↓ev_cst, ↓ev_glb, ↓ev_tup', ↓ev_lst', ↓ev_lstM', ↓ev_dct0, ↓ev_dct1, ↓ev_bop, ↓ev_neg, ↓ev_cmp, ↓ev_chain, ↓ev_isN, ↓ev_notN, ↓ev_notT, ↓ev_notE, ↓ev_dne, ↓ev_lenO, ↓ev_and, ↓ev_or, ↓ev_ife, ↓ev_attr, ↓ev_sub, ↓ev_slc, ↓ev_rev, ↓ev_call, ↓ev_make, ↓ev_mkK, ↓ev_meth, ↓ev_blt_q, ↓ev_bm_q, ↓ev_isi, ↓ev_lc, ↓ev_dc, ↓ev_frz,
  ↓ex_nil, ↓ex_cons, ↓ex_expr, ↓ex_set, ↓ex_asg, ↓ex_par, ↓ex_setA, ↓ex_asgA, ↓ex_setI, ↓ex_ret, ↓ex_retN, ↓ex_ife, ↓ex_for, ↓ex_pass, ↓ex_cont,
  ↓look_z, ↓look_s, ↓setS_z, ↓setS_s, setMany_n, ↓setMany_c, bargs_tup, bind_ok, toS_ok, then_nx, then_rt, fin_nx, fin_rt, of_some, ofB_some_q, br_bl, optB_some, optS_some, optM_some, asgS_tup, asgAS_tup, chainV_some, bind_ite, toS_ite, then_ite, fin_ite, ok_bl_ite, ok_word_ite, fst_fold, Option.isNone_none, Option.isNone_some, Option.isSome_none, Option.isSome_some,
  thaw_tup_q, thaw_lst, thaw_str, thaw_int, thaw_non, seqV_tup, seqV_lst, len_tup, len_lst, lt_int, le_int, gt_int, ge_int, eq_int, ne_int, cmp_in, cmp_notin, eq_word, ne_word, eq_hand, eq_eI, ne_ti_nil, in_ti, bop_add, bop_sub, neg_int, not_bl, sub_tup, sub_lst, at0, at5_1, at5_2, at5_3, at5_4, at2_1, at3_1, at3_2, at_map, slc_tup, slc_lst, cut_map, part_none, part_int, isAnil_anil, isAnil_cst, isAnil_var, isAnil_neg, isAnil_bop, isNV_eL, isNV_eI, isNV_non, isNV_tup, isNV_lst, isNV_int, tupV_ok, lstV_ok, lstMV_ok, isoEnd_ok, callT, callF, bop_addT, bop_addL,
  lcTurn_eq, turnV_bl, valO_ok, setT_one, setT_many, wipeS_n, ↓wipeS_c, wip_z, wip_s, all_bl, any_bl, srt_ints, srt_intsT, tupl_lst, tupl_tup, lstF_lst, lstF_tup, lrng_int, walk_tup, walk_lst, walk_rng, walk_zipT, walk_zipL, lenEnd_int, cast_0, cast_1, cast_2, cast_3, cast_5, Bool.and_self, ↓len_t0, ↓len_t1, ↓len_t2, ↓len_t5, Nat.reduceAdd, Int.reduceLE, Int.reduceLT, Int.reduceEq, Int.reduceAdd, Int.reduceSub, Int.reduceNeg, Int.reduceMul, mm_0, mm_1, mm_2, st_ld0, st_ld1, st_ag0, st_ag1, st_w0, ne_li_nil, eq_um, lc_nil, ne_nil_nil,  in_w3, in_stps, ne_ti, eq_ti, dne_mk, isNV_eP, pe_0, pe_1, asg_se, slc_se, makeF, mkEnd_ok, makeT, mkEndT_ok,
  Option.map_some, Bool.not_not, if_true, if_false, ↓reduceIte, List.append_nil, List.cons_append, List.nil_append, List.length_map, List.length_cons, List.length_nil, decide_eq_true_eq, Bool.not_true, Bool.not_false, reduceCtorEq, decide_false, decide_true, Bool.false_eq_true, List.singleton_append, map_snoc, map_app, Option.some.injEq, and_true, true_and, and_false, false_and, g_mq, a_plan, a_rules, a_phase, a_loaded, a_queue, a_emptied, a_helper, s_phase, s_loaded, s_queue, s_emptied, s_helper, s_used, s_lost, m_enqueue, m_begin, m_load, m_stop, m_end, m_taken, m_do_next, m_fail, m_empty, m_go_on, m_do, m_do_late, p_leans, p_adds, p_helper, p_len, g_ru0, g_ru1, g_ru2, g_ru3, g_ru4, g_s0, g_s1, g_s2, g_s3, g_s4, g_end, g_most, g_parts, g_i3, g_i2, g_i1, g_i0, g_iP, s_du, s_dl, s_dul, s_frzD, g_rules, g_ruI, g_ruL, m_frz, m_init14, m_init13, a_oused, a_olost, a_ophase, a_oloaded, a_oqueue, a_oemptied, a_ohelper, m_state_now, b3, b4, b5, b6, b7, b8, b10, b14, b15, b16, b18, b19, b20, b21, b22, b23, b24, b25, b26, b27, b28, b29, b30, b31, b32, b33, b34, b35, b36, b37, b38, b39, b109, b110, b111, b112, b114, b115, b117, b118, b119, b120, b349, b350, b351, b352, b353, b354, b355, b356, b357, b358, b359, b360, b361, b362, b363, b364, b365, b366, b367, b368, b369, *])

section
variable {a b c d e f g h i : PV} {n : Nat} {r : Ru} {m : Mo} {M : Store} {s : S} {st : Stp} {p lo hi : Int}
theorem r_is_number : run P (n + 1) 3 [.int p, .int lo, .int hi] M = .ok (.bl (decide (lo ≤ p) && decide (p ≤ hi))) M := by
  simp only [go3]
  (fail_if_success skip)
  by_cases h : lo ≤ p
  · simp only [h, if_true, decide_true, Bool.true_and]
  · simp only [h, if_false, decide_false, Bool.false_and]
theorem stp_range (h : st ∈ stepsP m s) : ∀ p, st = .ld p ∨ st = .ag p → 0 ≤ p ∧ p ≤ (m.ln.length : Int) - 1 := by
  intro p e
  unfold stepsP runS helpS endS at h
  have key : ∀ {x : Int}, x ∈ parts m → 0 ≤ x ∧ x ≤ (m.ln.length : Int) - 1 := fun {x} hx => by
    have := mem_rng.mp hx
    omega
  split at h
  · simp only [List.mem_append, List.mem_map, List.mem_singleton, List.mem_filter] at h
    rcases h with ((⟨x, ⟨h1, _⟩, h2⟩ | ⟨x, ⟨h1, _⟩, h2⟩) | h2) | h2
    · rcases e with rfl | rfl <;> cases h2
      exact key h1
    · rcases e with rfl | rfl <;> cases h2
      exact key h1
    · split at h2 <;> rcases e with rfl | rfl <;> simp at h2
    · rcases e with rfl | rfl <;> cases h2
  · simp only [List.mem_append] at h
    rcases h with h | h | h
    · split at h <;> rcases e with rfl | rfl <;> simp at h
    · split at h
      · split at h <;> rcases e with rfl | rfl <;> simp at h
      · split at h
        · split at h <;> rcases e with rfl | rfl <;> simp at h
        · simp at h
    · split at h <;> rcases e with rfl | rfl <;> simp at h
theorem r_is_step (hm : m.Ok) : run P (n + 4) 39 [m.p, s.e, st.e] [] = .ok (.bl ((stepsP m s).contains st)) [] := by
  have l3 := hm.l3
  have l1 := hm.l1
  have h0 : (0 : Int) ≤ m.ln.length := by omega
  have h1 : (m.ln.length : Int) < 1000000 := by omega
  have hso := r_steps_of (n := n) (s := s) hm
  have two : ∀ (w : Wo) (p : Int), st.e = .tup [.str w.s, .int p] → (∀ h : st ∈ stepsP m s, 0 ≤ p ∧ p ≤ (m.ln.length : Int) - 1) → run P (n + 4) 39 [m.p, s.e, st.e] [] = .ok (.bl ((stepsP m s).contains st)) [] := by
    intro w p e hr
    have e2 : inV (.tup [.str w.s, .int p]) (.lst ((stepsP m s).map Stp.e)) [] = some ((stepsP m s).contains st) := by rw [← e]; exact in_stps
    rw [e]
    simp only [go39]
    (fail_if_success skip)
    simp only [r_len, r_is_number]
    (fail_if_success skip)
    simp only [r_len, r_is_number]
    by_cases hh : 0 ≤ p ∧ p ≤ (m.ln.length : Int) - 1
    · obtain ⟨hh1, hh2⟩ := hh
      (fail_if_success skip)
    · have hc : (stepsP m s).contains st = false := by
        apply Bool.eq_false_iff.mpr
        intro z
        exact hh (hr (List.contains_iff_mem.mp z))
      have hz : (decide (0 ≤ p) && decide (p ≤ (m.ln.length : Int) - 1)) = false := by
        rw [← Bool.decide_and]; exact decide_eq_false hh
      (fail_if_success skip)
  cases st with
  | ld p => exact two .load p rfl fun h => stp_range h p (.inl rfl)
  | ag p => exact two .again p rfl fun h => stp_range h p (.inr rfl)
  | w x =>
    have e2 : inV (.tup [.str x.s]) (.lst ((stepsP m s).map Stp.e)) [] = some ((stepsP m s).contains (.w x)) := in_stps (s := .w x)
    show run P (n + 4) 39 [m.p, s.e, .tup [.str x.s]] [] = _
    simp only [go39]
    (fail_if_success skip)
theorem r_marks (hm : m.Ok) (hs : s.Ok m) (h : st ∈ stepsP m s) (hu : (didP m r s st).u.length ≤ 3) : run P (n + 7) 38 [m.p, r.v, s.e, st.e] [] = .ok (mkE (usesB s (didP m r s st).u) (didP m r s st).l) [.dead] := by
  have e1 := r_done (n := n) (r := r) hm hs h
  unfold oe at e1
  simp only [go38]
  (fail_if_success skip)
  rw [lc_all (fun p => PV.bl (!s.ld.contains p || s.gn.contains p)) (fun x hx => by (fail_if_success skip); cases s.ld.contains x <;> cases s.gn.contains x <;> rfl) (by unfold mostLen; omega)]
  (fail_if_success skip)
  rw [← show usesB s (didP m r s st).u = (didP m r s st).u.any (fun p => !s.ld.contains p || s.gn.contains p) from rfl]
  cases h1 : usesB s (didP m r s st).u <;> cases h2 : (didP m r s st).l <;> ((fail_if_success skip); rfl)
end
end Zk.K03
-- Zr4_03
namespace Zk.K03
open PySem Zk
local macro_rules | `(tactic| fail_if_success skip) => `(tactic| simp -dsimp -implicitDefEqProofs (disch := (refine id ?_; first | decide | omega | (simp only [List.length_cons, List.length_nil, List.length_append, List.length_map, mostLen, locFL, locF, locFL_ints, locF_eH, locF_eL, locF_eI, locF_e, locF_v, locF_p, locF_m, locF_stp, locFL_stp,  locF_mk, locF_mkL, locF_pe, locF_eP, Bool.and_self]; done) | (simp only [List.length_cons, List.length_nil, List.length_append, List.length_map, mostLen, locFL, locF, locFL_ints, locF_eH, locF_eL, locF_eI, locF_e, locF_v, locF_p, locF_m, locF_stp, locFL_stp,  locF_mk, locF_mkL, locF_pe, locF_eP, Bool.and_self]; omega) | (simp only [List.length_cons, List.length_nil, List.length_append, List.length_map, mostLen, locFL, locF, locFL_ints, locF_eH, locF_eL, locF_eI, locF_e, locF_v, locF_p, locF_m, locF_stp, locFL_stp,  locF_mk, locF_mkL, locF_pe, locF_eP, Bool.and_self, *]; done) | fail)) only [
  ↓ev_anil, ↓ev_acons, ↓ev_astar, ↓ev_var, ↓ev_cst, ↓ev_glb, ↓ev_tup', ↓ev_lst', ↓ev_lstM', ↓ev_dct0, ↓ev_dct1, ↓ev_bop, ↓ev_neg, ↓ev_cmp, ↓ev_chain, ↓ev_isN, ↓ev_notN, ↓ev_notT, ↓ev_notE, ↓ev_dne, ↓ev_lenO, ↓ev_and, ↓ev_or, ↓ev_ife, ↓ev_attr, ↓ev_sub, ↓ev_slc, ↓ev_rev, ↓ev_call, ↓ev_make, ↓ev_mkK, ↓ev_meth, ↓ev_blt_q, ↓ev_bm_q, ↓ev_isi, ↓ev_lc, ↓ev_dc, ↓ev_frz,
  ↓ex_nil, ↓ex_cons, ↓ex_expr, ↓ex_set, ↓ex_asg, ↓ex_par, ↓ex_setA, ↓ex_asgA, ↓ex_setI, ↓ex_ret, ↓ex_retN, ↓ex_ife, ↓ex_for, ↓ex_pass, ↓ex_cont,
  ↓look_z, ↓look_s, ↓setS_z, ↓setS_s, setMany_n, ↓setMany_c, bargs_tup, bind_ok, toS_ok, then_nx, then_rt, fin_nx, fin_rt, of_some, ofB_some_q, br_bl, optB_some, optS_some, optM_some, asgS_tup, asgAS_tup, chainV_some, bind_ite, toS_ite, then_ite, fin_ite, ok_bl_ite, ok_word_ite, fst_fold, Option.isNone_none, Option.isNone_some, Option.isSome_none, Option.isSome_some,
  thaw_tup_q, thaw_lst, thaw_str, thaw_int, thaw_non, seqV_tup, seqV_lst, len_tup, len_lst, lt_int, le_int, gt_int, ge_int, eq_int, ne_int, cmp_in, cmp_notin, eq_word, ne_word, eq_hand, eq_eI, ne_ti_nil, in_ti, bop_add, bop_sub, neg_int, not_bl, sub_tup, sub_lst, at0, at5_1, at5_2, at5_3, at5_4, at2_1, at3_1, at3_2, at_map, slc_tup, slc_lst, cut_map, part_none, part_int, isAnil_anil, isAnil_cst, isAnil_var, isAnil_neg, isAnil_bop, isNV_eL, isNV_eI, isNV_non, isNV_tup, isNV_lst, isNV_int, tupV_ok, lstV_ok, lstMV_ok, isoEnd_ok, callT, callF, bop_addT, bop_addL,
  lcTurn_eq, turnV_bl, valO_ok, setT_one, setT_many, wipeS_n, ↓wipeS_c, wip_z, wip_s, all_bl, any_bl, srt_ints, srt_intsT, tupl_lst, tupl_tup, lstF_lst, lstF_tup, lrng_int, walk_tup, walk_lst, walk_rng, walk_zipT, walk_zipL, lenEnd_int, cast_0, cast_1, cast_2, cast_3, cast_5, Bool.and_self, ↓len_t0, ↓len_t1, ↓len_t2, ↓len_t5, Nat.reduceAdd, Int.reduceLE, Int.reduceLT, Int.reduceEq, Int.reduceAdd, Int.reduceSub, Int.reduceNeg, Int.reduceMul, mm_0, mm_1, mm_2, st_ld0, st_ld1, st_ag0, st_ag1, st_w0, ne_li_nil, eq_um, lc_nil, ne_nil_nil,  in_w3, in_stps, ne_ti, eq_ti, dne_mk, isNV_eP, pe_0, pe_1, asg_se, slc_se, makeF, mkEnd_ok, makeT, mkEndT_ok,
  Option.map_some, Bool.not_not, if_true, if_false, ↓reduceIte, List.append_nil, List.cons_append, List.nil_append, List.length_map, List.length_cons, List.length_nil, decide_eq_true_eq, Bool.not_true, Bool.not_false, reduceCtorEq, decide_false, decide_true, Bool.false_eq_true, List.singleton_append, map_snoc, map_app, Option.some.injEq, and_true, true_and, and_false, false_and, g_mq, a_plan, a_rules, a_phase, a_loaded, a_queue, a_emptied, a_helper, s_phase, s_loaded, s_queue, s_emptied, s_helper, s_used, s_lost, m_enqueue, m_begin, m_load, m_stop, m_end, m_taken, m_do_next, m_fail, m_empty, m_go_on, m_do, m_do_late, p_leans, p_adds, p_helper, p_len, g_ru0, g_ru1, g_ru2, g_ru3, g_ru4, g_s0, g_s1, g_s2, g_s3, g_s4, g_end, g_most, g_parts, g_i3, g_i2, g_i1, g_i0, g_iP, s_du, s_dl, s_dul, s_frzD, g_rules, g_ruI, g_ruL, m_frz, m_init14, m_init13, a_oused, a_olost, a_ophase, a_oloaded, a_oqueue, a_oemptied, a_ohelper, m_state_now, b3, b4, b5, b6, b7, b8, b10, b14, b15, b16, b18, b19, b20, b21, b22, b23, b24, b25, b26, b27, b28, b29, b30, b31, b32, b33, b34, b35, b36, b37, b38, b39, b109, b110, b111, b112, b114, b115, b117, b118, b119, b120, b349, b350, b351, b352, b353, b354, b355, b356, b357, b358, b359, b360, b361, b362, b363, b364, b365, b366, b367, b368, b369, *])

section
variable {n : Nat} {r r1 r2 : Ru} {m : Mo} {M : Store} {s : S} {st : Stp} {p : S × S}
theorem r_both (hm : m.Ok) (hp : POk m p) : run P (n + 8) 110 [m.p, .tup [r1.v, r2.v], pe p, st.e] [] = .ok (eP (bothP m r1 r2 p st)) [] := by
  have i1 := fun k => r_is_step (n := k) (s := p.1) (st := st) hm
  have i2 := fun k => r_is_step (n := k) (s := p.2) (st := st) hm
  simp only [go110]
  unfold bothP
  cases h1 : (stepsP m p.1).contains st with
  | false =>
    (fail_if_success skip)
    rfl
  | true =>
    cases h2 : (stepsP m p.2).contains st with
    | false =>
      (fail_if_success skip)
      rfl
    | true =>
      have m1 := List.contains_iff_mem.mp h1
      have m2 := List.contains_iff_mem.mp h2
      have d1 := fun k => r_done (n := k) (r := r1) hm hp.1 m1
      have d2 := fun k => r_done (n := k) (r := r2) hm hp.2 m2
      have k1 := fun k => r_marks (n := k) (r := r1) hm hp.1 m1 (did_u hm m1)
      have k2 := fun k => r_marks (n := k) (r := r2) hm hp.2 m2 (did_u hm m2)
      have n1 := fun k M => r_state_now (n := k) (M := M) (m := m) (r := r1) (o := didP m r1 p.1 st)
      have n2 := fun k M => r_state_now (n := k) (M := M) (m := m) (r := r2) (o := didP m r2 p.2 st)
      unfold oe at d1 d2 n1 n2
      (fail_if_success skip)
      clear d1 d2 k1 k2 n1 n2 i1 i2 h1 h2 m1 m2
      generalize didP m r1 p.1 st = o1
      generalize didP m r2 p.2 st = o2
      generalize usesB p.1 o1.u = b1
      generalize usesB p.2 o2.u = b2
      by_cases c1 : o1.u = o2.u <;> cases b1 <;> cases b2 <;> cases h3 : o1.l <;> cases h4 : o2.l <;> simp [c1, eP, pe]
theorem r_any (hm : m.Ok) : run P (n + 4) 111 [m.p, pe p] [] = .ok (.lst ((anyP m p).map Stp.e)) [] := by
  have i1 := fun k => r_steps_of (n := k) (s := p.1) hm
  have i2 := fun k => r_steps_of (n := k) (s := p.2) hm
  have l1 := stepsP_len (s := p.1) hm
  have l2 := stepsP_len (s := p.2) hm
  have l3 := List.length_filter_le (fun st => !(stepsP m p.1).contains st) (stepsP m p.2)
  simp only [go111]
  (fail_if_success skip)
  rw [lc_map (fun st => !(stepsP m p.1).contains st) Stp.e (fun x hx => by (fail_if_success skip); cases (stepsP m p.1).contains x <;> rfl) (by unfold mostLen; omega)]
  (fail_if_success skip)
  unfold anyP
  rw [List.map_append]
end
end Zk.K03
-- Zr5_03
namespace Zk.K03
open PySem Zk
local macro_rules | `(tactic| fail_if_success skip) => `(tactic| simp -dsimp -implicitDefEqProofs (disch := (refine id ?_; first | decide | omega | (simp only [List.length_cons, List.length_nil, List.length_append, List.length_map, mostLen, locFL, locF, locFL_ints, locF_eH, locF_eL, locF_eI, locF_e, locF_v, locF_p, locF_m, locF_stp, locFL_stp,  locF_mk, locF_mkL, locF_pe, locF_eP, Bool.and_self]; done) | (simp only [List.length_cons, List.length_nil, List.length_append, List.length_map, mostLen, locFL, locF, locFL_ints, locF_eH, locF_eL, locF_eI, locF_e, locF_v, locF_p, locF_m, locF_stp, locFL_stp,  locF_mk, locF_mkL, locF_pe, locF_eP, Bool.and_self]; omega) | (simp only [List.length_cons, List.length_nil, List.length_append, List.length_map, mostLen, locFL, locF, locFL_ints, locF_eH, locF_eL, locF_eI, locF_e, locF_v, locF_p, locF_m, locF_stp, locFL_stp,  locF_mk, locF_mkL, locF_pe, locF_eP, Bool.and_self, *]; done) | fail)) only [
  ↓ev_anil, ↓ev_acons, ↓ev_astar, ↓ev_var, ↓ev_cst, ↓ev_glb, ↓ev_tup', ↓ev_lst', ↓ev_lstM', ↓ev_dct0, ↓ev_dct1, ↓ev_bop, ↓ev_neg, ↓ev_cmp, ↓ev_chain, ↓ev_isN, ↓ev_notN, ↓ev_notT, ↓ev_notE, ↓ev_dne, ↓ev_lenO, ↓ev_and, ↓ev_or, ↓ev_ife, ↓ev_attr, ↓ev_sub, ↓ev_slc, ↓ev_rev, ↓ev_call, ↓ev_make, ↓ev_mkK, ↓ev_meth, ↓ev_blt_q, ↓ev_bm_q, ↓ev_isi, ↓ev_lc, ↓ev_dc, ↓ev_frz,
  ↓ex_nil, ↓ex_cons, ↓ex_expr, ↓ex_set, ↓ex_asg, ↓ex_par, ↓ex_setA, ↓ex_asgA, ↓ex_setI, ↓ex_ret, ↓ex_retN, ↓ex_ife, ↓ex_for, ↓ex_pass, ↓ex_cont,
  ↓look_z, ↓look_s, ↓setS_z, ↓setS_s, setMany_n, ↓setMany_c, bargs_tup, bind_ok, toS_ok, then_nx, then_rt, fin_nx, fin_rt, of_some, ofB_some_q, br_bl, optB_some, optS_some, optM_some, asgS_tup, asgAS_tup, chainV_some, bind_ite, toS_ite, then_ite, fin_ite, ok_bl_ite, ok_word_ite, fst_fold, Option.isNone_none, Option.isNone_some, Option.isSome_none, Option.isSome_some,
  thaw_tup_q, thaw_lst, thaw_str, thaw_int, thaw_non, seqV_tup, seqV_lst, len_tup, len_lst, lt_int, le_int, gt_int, ge_int, eq_int, ne_int, cmp_in, cmp_notin, eq_word, ne_word, eq_hand, eq_eI, ne_ti_nil, in_ti, bop_add, bop_sub, neg_int, not_bl, sub_tup, sub_lst, at0, at5_1, at5_2, at5_3, at5_4, at2_1, at3_1, at3_2, at_map, slc_tup, slc_lst, cut_map, part_none, part_int, isAnil_anil, isAnil_cst, isAnil_var, isAnil_neg, isAnil_bop, isNV_eL, isNV_eI, isNV_non, isNV_tup, isNV_lst, isNV_int, tupV_ok, lstV_ok, lstMV_ok, isoEnd_ok, callT, callF, bop_addT, bop_addL,
  lcTurn_eq, turnV_bl, valO_ok, setT_one, setT_many, wipeS_n, ↓wipeS_c, wip_z, wip_s, all_bl, any_bl, srt_ints, srt_intsT, tupl_lst, tupl_tup, lstF_lst, lstF_tup, lrng_int, walk_tup, walk_lst, walk_rng, walk_zipT, walk_zipL, lenEnd_int, cast_0, cast_1, cast_2, cast_3, cast_5, Bool.and_self, ↓len_t0, ↓len_t1, ↓len_t2, ↓len_t5, Nat.reduceAdd, Int.reduceLE, Int.reduceLT, Int.reduceEq, Int.reduceAdd, Int.reduceSub, Int.reduceNeg, Int.reduceMul, mm_0, mm_1, mm_2, st_ld0, st_ld1, st_ag0, st_ag1, st_w0, ne_li_nil, eq_um, lc_nil, ne_nil_nil,  in_w3, in_stps, ne_ti, eq_ti, dne_mk, isNV_eP, pe_0, pe_1, asg_se, slc_se, makeF, mkEnd_ok, makeT, mkEndT_ok,
  Option.map_some, Bool.not_not, if_true, if_false, ↓reduceIte, List.append_nil, List.cons_append, List.nil_append, List.length_map, List.length_cons, List.length_nil, decide_eq_true_eq, Bool.not_true, Bool.not_false, reduceCtorEq, decide_false, decide_true, Bool.false_eq_true, List.singleton_append, map_snoc, map_app, Option.some.injEq, and_true, true_and, and_false, false_and, g_mq, a_plan, a_rules, a_phase, a_loaded, a_queue, a_emptied, a_helper, s_phase, s_loaded, s_queue, s_emptied, s_helper, s_used, s_lost, m_enqueue, m_begin, m_load, m_stop, m_end, m_taken, m_do_next, m_fail, m_empty, m_go_on, m_do, m_do_late, p_leans, p_adds, p_helper, p_len, g_ru0, g_ru1, g_ru2, g_ru3, g_ru4, g_s0, g_s1, g_s2, g_s3, g_s4, g_end, g_most, g_parts, g_i3, g_i2, g_i1, g_i0, g_iP, s_du, s_dl, s_dul, s_frzD, g_rules, g_ruI, g_ruL, m_frz, m_init14, m_init13, a_oused, a_olost, a_ophase, a_oloaded, a_oqueue, a_oemptied, a_ohelper, m_state_now, b3, b4, b5, b6, b7, b8, b10, b14, b15, b16, b18, b19, b20, b21, b22, b23, b24, b25, b26, b27, b28, b29, b30, b31, b32, b33, b34, b35, b36, b37, b38, b39, b109, b110, b111, b112, b114, b115, b117, b118, b119, b120, b349, b350, b351, b352, b353, b354, b355, b356, b357, b358, b359, b360, b361, b362, b363, b364, b365, b366, b367, b368, b369, *])

section
variable {n : Nat} {r r1 r2 : Ru} {m : Mo} {M : Store} {w a b c : Wo}
theorem r_word2 : run P (n + 1) 4 [.str w.s, .tup [.str a.s, .str b.s]] M = .ok (.bl (decide (w = a) || decide (w = b))) M := by
  simp only [go4]
  (fail_if_success skip)
  simp only [in_w2]
  (fail_if_success skip)
theorem r_word3 : run P (n + 1) 4 [.str w.s, .tup [.str a.s, .str b.s, .str c.s]] M = .ok (.bl (decide (w = a) || (decide (w = b) || decide (w = c)))) M := by
  simp only [go4]
  (fail_if_success skip)
theorem r_are_rules (h : r.Ok) : run P (n + 2) 15 [r.v] [] = .ok (.bl true) [] := by
  obtain ⟨o, nn, c, hh, e⟩ := r
  have z : zip2 [PV.str o.s, .str nn.s, .str c.s, .str hh.s, .str e.s] [PV.tup [.str Wo.last.s, .str Wo.first.s], .tup [.str Wo.after.s, .str Wo.before.s], .tup [.str Wo.back.s, .str Wo.along.s], .tup [.str Wo.wait.s, .str Wo.cut.s, .str Wo.free.s], .tup [.str Wo.onward.s, .str Wo.drop.s]] =
    [PV.tup [.str o.s, .tup [.str Wo.last.s, .str Wo.first.s]], .tup [.str nn.s, .tup [.str Wo.after.s, .str Wo.before.s]], .tup [.str c.s, .tup [.str Wo.back.s, .str Wo.along.s]], .tup [.str hh.s, .tup [.str Wo.wait.s, .str Wo.cut.s, .str Wo.free.s]], .tup [.str e.s, .tup [.str Wo.onward.s, .str Wo.drop.s]]] := rfl
  obtain ⟨h1, h2, h3, h4, h5⟩ := h
  simp only at h1 h2 h3 h4 h5
  simp only [go15]
  (fail_if_success skip)
  rw [show Ru.v ⟨o, nn, c, hh, e⟩ = PV.tup [PV.str o.s, .str nn.s, .str c.s, .str hh.s, .str e.s] from rfl]
  (fail_if_success skip)
  rw [show ([PV.tup [.str o.s, .tup [.str Wo.last.s, .str Wo.first.s]], .tup [.str nn.s, .tup [.str Wo.after.s, .str Wo.before.s]], .tup [.str c.s, .tup [.str Wo.back.s, .str Wo.along.s]], .tup [.str hh.s, .tup [.str Wo.wait.s, .str Wo.cut.s, .str Wo.free.s]], .tup [.str e.s, .tup [.str Wo.onward.s, .str Wo.drop.s]]] : List PV) = List.map id [PV.tup [.str o.s, .tup [.str Wo.last.s, .str Wo.first.s]], .tup [.str nn.s, .tup [.str Wo.after.s, .str Wo.before.s]], .tup [.str c.s, .tup [.str Wo.back.s, .str Wo.along.s]], .tup [.str hh.s, .tup [.str Wo.wait.s, .str Wo.cut.s, .str Wo.free.s]], .tup [.str e.s, .tup [.str Wo.onward.s, .str Wo.drop.s]]] from rfl]
  have d2 : ∀ {w a b : Wo}, (w = a ∨ w = b) → (decide (w = a) || decide (w = b)) = true := fun {w a b} h => by simpa using h
  have d3 : ∀ {w a b c : Wo}, (w = a ∨ w = b ∨ w = c) → (decide (w = a) || (decide (w = b) || decide (w = c))) = true := fun {w a b c} h => by simpa using h
  have t2 : ∀ {w a b : Wo} {k : Nat} {M : Store}, (w = a ∨ w = b) → run P (k + 1) 4 [.str w.s, .tup [.str a.s, .str b.s]] M = .ok (.bl true) M := fun h => by rw [r_word2, d2 h]
  have t3 : ∀ {w a b c : Wo} {k : Nat} {M : Store}, (w = a ∨ w = b ∨ w = c) → run P (k + 1) 4 [.str w.s, .tup [.str a.s, .str b.s, .str c.s]] M = .ok (.bl true) M := fun h => by rw [r_word3, d3 h]
  have q1 := fun k M => t2 (k := k) (M := M) h1
  have q2 := fun k M => t2 (k := k) (M := M) h2
  have q3 := fun k M => t2 (k := k) (M := M) h3
  have q4 := fun k M => t3 (k := k) (M := M) h4
  have q5 := fun k M => t2 (k := k) (M := M) h5
  clear t2 t3 d2 d3 h1 h2 h3 h4 h5 z
  rw [lc_all (fun _ => PV.bl true) (fun x hx => by
    simp only [List.mem_cons, List.not_mem_nil, or_false] at hx
    rcases hx with rfl | rfl | rfl | rfl | rfl <;> (simp only [id]; (fail_if_success skip))) (by simp [mostLen])]
  (fail_if_success skip)
  rfl
theorem r_check_rules (h : r.Ok) : run P (n + 3) 16 [m.p, r.v] [] = .ok .non [] := by
  have e1 := fun k => r_are_rules (n := k) h
  have e2 : ∀ k M, run P (k + 1) 14 [m.p] M = .ok .non M := fun k M => by
    simp only [go14]
    (fail_if_success skip)
  simp only [go16]
  (fail_if_success skip)
end
end Zk.K03
-- Zl1_03
namespace Zk.K03
open PySem Zk
local macro_rules | `(tactic| fail_if_success skip) => `(tactic| simp -dsimp -implicitDefEqProofs (disch := (refine id ?_; first | decide | omega | (simp only [List.length_cons, List.length_nil, List.length_append, List.length_map, mostLen, locFL, locF, locFL_ints, locF_eH, locF_eL, locF_eI, locF_e, locF_v, locF_p, locF_m, locF_stp, locFL_stp,  locF_mk, locF_mkL, locF_pe, locF_eP, Bool.and_self]; done) | (simp only [List.length_cons, List.length_nil, List.length_append, List.length_map, mostLen, locFL, locF, locFL_ints, locF_eH, locF_eL, locF_eI, locF_e, locF_v, locF_p, locF_m, locF_stp, locFL_stp,  locF_mk, locF_mkL, locF_pe, locF_eP, Bool.and_self]; omega) | (simp only [List.length_cons, List.length_nil, List.length_append, List.length_map, mostLen, locFL, locF, locFL_ints, locF_eH, locF_eL, locF_eI, locF_e, locF_v, locF_p, locF_m, locF_stp, locFL_stp,  locF_mk, locF_mkL, locF_pe, locF_eP, Bool.and_self, *]; done) | fail)) only [
  ↓ev_anil, ↓ev_acons, ↓ev_astar, ↓ev_var, ↓ev_cst, ↓ev_glb, ↓ev_tup', ↓ev_lst', ↓ev_lstM', ↓ev_dct0, ↓ev_dct1, ↓ev_bop, ↓ev_neg, ↓ev_cmp, ↓ev_chain, ↓ev_isN, ↓ev_notN, ↓ev_notT, ↓ev_notE, ↓ev_dne, ↓ev_lenO, ↓ev_and, ↓ev_or, ↓ev_ife, ↓ev_attr, ↓ev_sub, ↓ev_slc, ↓ev_rev, ↓ev_call, ↓ev_make, ↓ev_mkK, ↓ev_meth, ↓ev_blt_q, ↓ev_bm_q, ↓ev_isi, ↓ev_lc, ↓ev_dc, ↓ev_frz,
  ↓ex_nil, ↓ex_cons, ↓ex_expr, ↓ex_set, ↓ex_asg, ↓ex_par, ↓ex_setA, ↓ex_asgA, ↓ex_setI, ↓ex_ret, ↓ex_retN, ↓ex_ife, ↓ex_for, ↓ex_pass, ↓ex_cont,
  ↓look_z, ↓look_s, ↓setS_z, ↓setS_s, setMany_n, ↓setMany_c, bargs_tup, bind_ok, toS_ok, then_nx, then_rt, fin_nx, fin_rt, of_some, ofB_some_q, br_bl, optB_some, optS_some, optM_some, asgS_tup, asgAS_tup, chainV_some, bind_ite, toS_ite, then_ite, fin_ite, ok_bl_ite, ok_word_ite, fst_fold, Option.isNone_none, Option.isNone_some, Option.isSome_none, Option.isSome_some,
  thaw_tup_q, thaw_lst, thaw_str, thaw_int, thaw_non, seqV_tup, seqV_lst, len_tup, len_lst, lt_int, le_int, gt_int, ge_int, eq_int, ne_int, cmp_in, cmp_notin, eq_word, ne_word, eq_hand, eq_eI, ne_ti_nil, in_ti, bop_add, bop_sub, neg_int, not_bl, sub_tup, sub_lst, at0, at5_1, at5_2, at5_3, at5_4, at2_1, at3_1, at3_2, at_map, slc_tup, slc_lst, cut_map, part_none, part_int, isAnil_anil, isAnil_cst, isAnil_var, isAnil_neg, isAnil_bop, isNV_eL, isNV_eI, isNV_non, isNV_tup, isNV_lst, isNV_int, tupV_ok, lstV_ok, lstMV_ok, isoEnd_ok, callT, callF, bop_addT, bop_addL,
  lcTurn_eq, turnV_bl, valO_ok, setT_one, setT_many, wipeS_n, ↓wipeS_c, wip_z, wip_s, all_bl, any_bl, srt_ints, srt_intsT, tupl_lst, tupl_tup, lstF_lst, lstF_tup, lrng_int, walk_tup, walk_lst, walk_rng, walk_zipT, walk_zipL, lenEnd_int, cast_0, cast_1, cast_2, cast_3, cast_5, Bool.and_self, ↓len_t0, ↓len_t1, ↓len_t2, ↓len_t5, Nat.reduceAdd, Int.reduceLE, Int.reduceLT, Int.reduceEq, Int.reduceAdd, Int.reduceSub, Int.reduceNeg, Int.reduceMul, mm_0, mm_1, mm_2, st_ld0, st_ld1, st_ag0, st_ag1, st_w0, ne_li_nil, eq_um, lc_nil, ne_nil_nil,  in_w3, in_stps, ne_ti, eq_ti, dne_mk, isNV_eP, pe_0, pe_1, asg_se, slc_se, makeF, mkEnd_ok, makeT, mkEndT_ok,
  Option.map_some, Bool.not_not, if_true, if_false, ↓reduceIte, List.append_nil, List.cons_append, List.nil_append, List.length_map, List.length_cons, List.length_nil, decide_eq_true_eq, Bool.not_true, Bool.not_false, reduceCtorEq, decide_false, decide_true, Bool.false_eq_true, List.singleton_append, map_snoc, map_app, Option.some.injEq, and_true, true_and, and_false, false_and, g_mq, a_plan, a_rules, a_phase, a_loaded, a_queue, a_emptied, a_helper, s_phase, s_loaded, s_queue, s_emptied, s_helper, s_used, s_lost, m_enqueue, m_begin, m_load, m_stop, m_end, m_taken, m_do_next, m_fail, m_empty, m_go_on, m_do, m_do_late, p_leans, p_adds, p_helper, p_len, g_ru0, g_ru1, g_ru2, g_ru3, g_ru4, g_s0, g_s1, g_s2, g_s3, g_s4, g_end, g_most, g_parts, g_i3, g_i2, g_i1, g_i0, g_iP, s_du, s_dl, s_dul, s_frzD, g_rules, g_ruI, g_ruL, m_frz, m_init14, m_init13, a_oused, a_olost, a_ophase, a_oloaded, a_oqueue, a_oemptied, a_ohelper, m_state_now, b3, b4, b5, b6, b7, b8, b10, b14, b15, b16, b18, b19, b20, b21, b22, b23, b24, b25, b26, b27, b28, b29, b30, b31, b32, b33, b34, b35, b36, b37, b38, b39, b109, b110, b111, b112, b114, b115, b117, b118, b119, b120, b349, b350, b351, b352, b353, b354, b355, b356, b357, b358, b359, b360, b361, b362, b363, b364, b365, b366, b367, b368, b369, *])

section
variable {n : Nat} {r r1 r2 : Ru} {m : Mo} {M : Store} {s : S} {st : Stp} {p : S × S} {q : List Int} {x : Int}
theorem l_begin : run P (n + 1) 357 [m.m] M = .ok (s0 m).e M := by
  simp only [go357]
  (fail_if_success skip)
  unfold s0
  cases m.hp <;> rfl
theorem l_with_i (hq : q.length ≤ 3) : run P (n + 1) 359 [ti q, .int x] M = .ok (ti (enqF q x)) M := by
  simp only [go359]
  (fail_if_success skip)
  unfold enqF
  by_cases h : q.length < 3
  · rw [if_pos (by omega), if_pos h]
  · rw [if_neg (by omega), if_neg h]
theorem l_with_n : run P (n + 1) 359 [ti q, .non] M = .ok (ti q) M := by
  simp only [go359]
  (fail_if_success skip)
theorem l_steps (hm : m.Ok) (hs : s.Ok m) : run P (n + 1) 358 [m.m, s.e, .tup []] M = .ok (.lst ((stepsP m s).map Stp.e)) M := by
  have h6 := List.length_filter_le (fun p => !s.ld.contains p) (parts m)
  have h7 := List.length_filter_le (fun p => s.ld.contains p && hasD m p) (parts m)
  rw [parts_len] at h6 h7
  have l3 := hm.l3
  have g3 := hs.l3 hm
  have h2 : m.ln.length ≤ 1000000 := by omega
  have h5 : (rng m.ln.length).length ≤ mostLen := by rw [rng_len]; unfold mostLen; omega
  have hl := left_iff hs
  simp only [go358]
  by_cases h1 : s.ph = .run
  · have es : (stepsP m s).map Stp.e = (((parts m).filter fun p => !s.ld.contains p).map (fun p => PV.tup [.str Wo.load.s, .int p]) ++ ((parts m).filter fun p => s.ld.contains p && hasD m p).map (fun p => PV.tup [.str Wo.again.s, .int p])) ++ (helpS s).map Stp.e ++ [PV.tup [.str Wo.end_.s]] := by
      unfold stepsP
      rw [if_pos h1, List.map_append, List.map_append, runS_e]
      rfl
    rw [es]
    (fail_if_success skip)
    rw [lc_map (fun p => !s.ld.contains p) (fun p => PV.tup [.str Wo.load.s, .int p]) (fun x hx => by (fail_if_success skip); cases s.ld.contains x <;> rfl) h5]
    (fail_if_success skip)
    rw [lc_map (fun p => s.ld.contains p && hasD m p) PV.int (fun x hx => by
      obtain ⟨x1, x2⟩ := mem_rng.mp hx
      obtain ⟨o, ho⟩ := atI_of (l := m.ln) x1 x2
      have eo : hasD m x = o.isSome := by unfold hasD; rw [ho]; cases o <;> rfl
      (fail_if_success skip)
      cases s.ld.contains x <;> cases o <;> rfl) h5]
    unfold parts at h6 h7 ⊢
    (fail_if_success skip)
    rw [lc_all (fun p => PV.tup [.str Wo.again.s, .int p]) (fun x hx => by (fail_if_success skip)) (by unfold mostLen; omega)]
    unfold helpS
    by_cases h2 : s.hd = some .on
    · (fail_if_success skip)
      simp [Stp.e]
    · (fail_if_success skip)
      simp
  · have es : stepsP m s = helpS s ++ endS s := if_neg h1
    rw [es]
    unfold helpS endS
    by_cases h2 : s.ph = .deeds
    · by_cases h3 : s.hd = some .on
      · cases h4 : s.q.isEmpty <;> ((fail_if_success skip); rfl)
      · cases h4 : s.q.isEmpty <;> ((fail_if_success skip); rfl)
    · by_cases h5 : s.ph = .names
      · have key : ∀ {xs : List PV} {F : PV → Store → Option (Option PV × Store)} {M : Store}, (∀ x ∈ s.ld, F (PV.int x) M = some (if (!s.gn.contains x) = true then some (PV.int x) else none, M)) → lcEnd (lcLoop F (s.ld.map PV.int) [] M) = .ok (.lst ((leftF s.ld s.gn).map PV.int)) M := fun {xs F M} hF => lc_map (fun p => !s.gn.contains p) PV.int hF (by unfold mostLen; omega)
        by_cases h3 : s.hd = some .on
        · (fail_if_success skip)
          rw [key (xs := []) (fun x hx => by (fail_if_success skip); cases s.gn.contains x <;> rfl)]
          by_cases h4 : s.gn.length < s.ld.length
          · have h6 : (leftF s.ld s.gn).isEmpty = false := by
              have := hl.mpr h4
              cases e : leftF s.ld s.gn with
              | nil => exact absurd e this
              | cons y z => rfl
            (fail_if_success skip); rfl
          · have h6 : (leftF s.ld s.gn).isEmpty = true := by
              cases e : leftF s.ld s.gn with
              | nil => rfl
              | cons y z => exact absurd (hl.mp (by rw [e]; simp)) h4
            (fail_if_success skip); rfl
        · (fail_if_success skip)
          rw [key (xs := []) (fun x hx => by (fail_if_success skip); cases s.gn.contains x <;> rfl)]
          by_cases h4 : s.gn.length < s.ld.length
          · have h6 : (leftF s.ld s.gn).isEmpty = false := by
              have := hl.mpr h4
              cases e : leftF s.ld s.gn with
              | nil => exact absurd e this
              | cons y z => rfl
            (fail_if_success skip); rfl
          · have h6 : (leftF s.ld s.gn).isEmpty = true := by
              cases e : leftF s.ld s.gn with
              | nil => rfl
              | cons y z => exact absurd (hl.mp (by rw [e]; simp)) h4
            (fail_if_success skip); rfl
      · by_cases h7 : s.ph = .over
        · by_cases h3 : s.hd = some .on
          · (fail_if_success skip); rfl
          · (fail_if_success skip); rfl
        · have h8 : s.ph = .wait := by
            rcases hs.ph with e | e | e | e | e
            · exact absurd e h1
            · exact e
            · exact absurd e h2
            · exact absurd e h5
            · exact absurd e h7
          by_cases h3 : s.hd = some .on
          · (fail_if_success skip); rfl
          · (fail_if_success skip); rfl
theorem l_late {x : Wo} (hm : m.Ok) (hs : s.Ok m) (h : Stp.w x ∈ stepsP m s) (hx : x = .do_ ∨ x = .fail ∨ x = .empty ∨ x = .next ∨ x = .bell) : run P (n + 2) 360 [m.m, r.v, s.e, .str x.s, .tup []] M = .ok (.tup [(didW m r s x).s.e, ti (didW m r s x).u, .bl (didW m r s x).l]) M := by
  have q3 := hs.q3
  have l3 := hs.l3 hm
  have g3 := hs.g3 hm
  have c := can_of h
  simp only [go360]
  rcases hx with rfl | rfl | rfl | rfl | rfl
  · cases c with
    | do_ hq =>
      have hd := hs.qd _ (tkP_mem (r := r) hq)
      have e1 := hasD_some hd.2
      have e2 := ad_some hm hd.1 hd.2
      have l1 := tkQ_len (r := r) hq
      unfold didW
      by_cases h1 : r.o = .last
      · obtain ⟨t1, t2⟩ := tk_l h1 hq
        cases hx : adOf m (tkP r s.q) with
        | none =>
          rw [hx] at e2
          by_cases h2 : r.n = .after
          · (fail_if_success skip)
            simp only [eI, l_with_n]
            (fail_if_success skip)
            rfl
          · (fail_if_success skip)
            simp only [eI, l_with_n]
            (fail_if_success skip)
            rfl
        | some y =>
          rw [hx] at e2
          have l4 : (tkQ r s.q).length ≤ 3 := by omega
          by_cases h2 : r.n = .after
          · (fail_if_success skip)
            simp only [eI, l_with_i l4]
            (fail_if_success skip)
            rfl
          · (fail_if_success skip)
            simp only [eI, l_with_i l4]
            (fail_if_success skip)
            rfl
      · obtain ⟨t1, t2⟩ := tk_f h1 hq
        cases hx : adOf m (tkP r s.q) with
        | none =>
          rw [hx] at e2
          by_cases h2 : r.n = .after
          · (fail_if_success skip)
            simp only [eI, l_with_n]
            (fail_if_success skip)
            rfl
          · (fail_if_success skip)
            simp only [eI, l_with_n]
            (fail_if_success skip)
            rfl
        | some y =>
          rw [hx] at e2
          have l4 : (tkQ r s.q).length ≤ 3 := by omega
          by_cases h2 : r.n = .after
          · (fail_if_success skip)
            simp only [eI, l_with_i l4]
            (fail_if_success skip)
            rfl
          · (fail_if_success skip)
            simp only [eI, l_with_i l4]
            (fail_if_success skip)
            rfl
  · cases c with
    | fail hq =>
      have l1 := tkQ_len (r := r) hq
      unfold didW
      by_cases h1 : r.o = .last
      · obtain ⟨t1, t2⟩ := tk_l h1 hq
        by_cases h2 : r.n = .after <;> by_cases h3 : r.e = .drop <;> ((fail_if_success skip); rfl)
      · obtain ⟨t1, t2⟩ := tk_f h1 hq
        by_cases h2 : r.n = .after <;> by_cases h3 : r.e = .drop <;> ((fail_if_success skip); rfl)
  · cases c with
    | empty hg =>
      obtain ⟨y, z, e1, e2⟩ := leftF_at ((left_iff hs).mpr hg)
      have en : nextN r s.ld s.gn = if r.c = .back then y else z := by unfold nextN; rw [e1, e2]; rfl
      have key : ∀ {F : PV → Store → Option (Option PV × Store)} {M : Store}, (∀ x ∈ s.ld, F (PV.int x) M = some (if (!s.gn.contains x) = true then some (PV.int x) else none, M)) → lcEnd (lcLoop F (s.ld.map PV.int) [] M) = .ok (.lst ((leftF s.ld s.gn).map PV.int)) M := fun {F M} hF => lc_map (fun p => !s.gn.contains p) PV.int hF (by unfold mostLen; omega)
      unfold didW
      rw [en]
      by_cases h2 : r.n = .after
      · (fail_if_success skip)
        rw [key (fun x hx => by (fail_if_success skip); cases s.gn.contains x <;> rfl)]
        by_cases h3 : r.c = .back <;> ((fail_if_success skip); rfl)
      · (fail_if_success skip)
        rw [key (fun x hx => by (fail_if_success skip); cases s.gn.contains x <;> rfl)]
        by_cases h3 : r.c = .back <;> ((fail_if_success skip); rfl)
  · unfold didW fstPh sndPh
    by_cases h1 : r.n = .after
    · by_cases h2 : s.ph = .deeds <;> ((fail_if_success skip); rfl)
    · by_cases h2 : s.ph = .names <;> ((fail_if_success skip); rfl)
  · unfold didW
    by_cases h1 : r.n = .after
    · (fail_if_success skip)
      rfl
    · (fail_if_success skip)
      rfl
/-- what the law says of a step -/
def oL (s : S) (o : Out) : PV := .tup [o.s.e, ti o.u, mkL (usesB s o.u) o.l]
theorem l_did (hm : m.Ok) (hs : s.Ok m) (h : st ∈ stepsP m s) : run P (n + 3) 361 [m.m, r.v, s.e, st.e, .tup []] M = .ok (oL s (didP m r s st)) M := by
  have q3 := hs.q3
  have l3 := hs.l3 hm
  have hu := did_u (r := r) hm h
  have c := can_of h
  have key : ∀ {xs : List PV} {F : PV → Store → Option (Option PV × Store)} {M : Store} (u : List Int), xs = u.map PV.int → u.length ≤ 3 → (∀ x ∈ u, F (PV.int x) M = some (if (!s.ld.contains x || s.gn.contains x) = true then some (PV.int x) else none, M)) → lcEnd (lcLoop F xs [] M) = .ok (.lst ((u.filter fun p => !s.ld.contains p || s.gn.contains p).map PV.int)) M := fun {xs F M} u e h3 hF => by
    rw [e]; exact lc_map (fun p => !s.ld.contains p || s.gn.contains p) PV.int hF (by unfold mostLen; omega)
  have ku : ∀ u : List Int, usesB s u = !(u.filter fun p => !s.ld.contains p || s.gn.contains p).isEmpty := fun u => by
    unfold usesB
    induction u with
    | nil => rfl
    | cons x u ih =>
      rw [List.any_cons, List.filter_cons, ih]
      cases (!s.ld.contains x || s.gn.contains x) <;> rfl
  have late : ∀ x : Wo, Stp.w x ∈ stepsP m s → (didW m r s x).u.length ≤ 3 → (x = .do_ ∨ x = .fail ∨ x = .empty ∨ x = .next ∨ x = .bell) → run P (n + 3) 361 [m.m, r.v, s.e, (Stp.w x).e, .tup []] M = .ok (oL s (didW m r s x)) M := by
    intro x h hu hx
    have e1 := fun M => l_late (n := n) (r := r) (M := M) hm hs h hx
    have n1 : x ≠ .load := by rcases hx with rfl | rfl | rfl | rfl | rfl <;> simp
    have n2 : x ≠ .again := by rcases hx with rfl | rfl | rfl | rfl | rfl <;> simp
    have n3 : x ≠ .work := by rcases hx with rfl | rfl | rfl | rfl | rfl <;> simp
    have n4 : x ≠ .stop := by rcases hx with rfl | rfl | rfl | rfl | rfl <;> simp
    have n5 : x ≠ .end_ := by rcases hx with rfl | rfl | rfl | rfl | rfl <;> simp
    clear hx
    unfold oL mkL
    rw [ku]
    simp only [go361]
    generalize didW m r s x = o at *
    (fail_if_success skip)
    rw [key o.u rfl hu (fun x hx => by (fail_if_success skip); cases s.ld.contains x <;> cases s.gn.contains x <;> rfl)]
    cases h1 : (o.u.filter fun p => !s.ld.contains p || s.gn.contains p).isEmpty <;> cases h2 : o.l <;> ((fail_if_success skip) <;> rfl)
  cases c with
  | ld p h1 h2 h3 =>
    obtain ⟨h4, h5⟩ := mem_rng.mp h1
    obtain ⟨o, ho⟩ := atI_of (l := m.ln) h4 h5
    have eo : hasD m p = o.isSome := by unfold hasD; rw [ho]; cases o <;> rfl
    simp only [go361]
    unfold didP
    cases o with
    | none =>
      by_cases h6 : m.hp = some p
      · (fail_if_success skip)
        simp only [l_with_n]
        (fail_if_success skip)
        rfl
      · (fail_if_success skip)
        simp only [l_with_n]
        (fail_if_success skip)
        rfl
    | some o =>
      by_cases h6 : m.hp = some p
      · (fail_if_success skip)
        simp only [l_with_i q3]
        (fail_if_success skip)
        rfl
      · (fail_if_success skip)
        simp only [l_with_i q3]
        (fail_if_success skip)
        rfl
  | ag p h1 h2 h3 =>
    simp only [go361]
    unfold didP
    (fail_if_success skip)
    simp only [l_with_i q3]
    (fail_if_success skip)
    rfl
  | work h' =>
    cases hp : m.hp with
    | none => rw [hs.hn.mpr hp] at h'; cases h'
    | some y =>
      have e3 : didP m r s (.w .work) = ⟨s, [y], false⟩ := by unfold didP didW; rw [hp]; rfl
      rw [e3]
      unfold oL mkL
      rw [ku]
      dsimp only
      simp only [go361]
      (fail_if_success skip)
      rw [key (xs := [eI (some y)]) [y] rfl (by simp) (fun x hx => by (fail_if_success skip); cases s.ld.contains x <;> cases s.gn.contains x <;> rfl)]
      clear key ku late
      generalize ([y].filter fun p => !s.ld.contains p || s.gn.contains p) = fl
      cases h1 : fl.isEmpty <;> ((fail_if_success skip) <;> rfl)
  | stop h' =>
    simp only [go361]
    unfold didP didW
    by_cases h1 : s.ph = .wait
    · (fail_if_success skip)
      rfl
    · (fail_if_success skip)
      rfl
  | end_ =>
    simp only [go361]
    unfold didP didW
    by_cases h1 : s.hd = some .on
    · by_cases h2 : r.h = .wait
      · (fail_if_success skip)
        rfl
      · by_cases h3 : r.h = .cut
        · (fail_if_success skip)
          rfl
        · (fail_if_success skip)
          rfl
    · (fail_if_success skip)
      rfl
  | do_ hq => exact late _ h hu (by simp)
  | fail hq => exact late _ h hu (by simp)
  | empty hg => exact late _ h hu (by simp)
  | next => exact late _ h hu (by simp)
  | bell => exact late _ h hu (by simp)
def rig (m : Mo) (r1 r2 : Ru) : PV := .tup [m.m, r1.v, r2.v]
theorem rig_0 : subV (rig m r1 r2) (.int 0) M = some m.m := rfl
theorem rig_1 : subV (rig m r1 r2) (.int 1) M = some r1.v := rfl
theorem rig_2 : subV (rig m r1 r2) (.int 2) M = some r2.v := rfl
theorem oL_0 {o : Out} : subV (oL s o) (.int 0) M = some o.s.e := rfl
theorem oL_1 {o : Out} : slcV (oL s o) (some 1) none M = some (.tup [ti o.u, mkL (usesB s o.u) o.l]) := rfl
theorem locF_oL {o : Out} : locF (oL s o) = true := by simp only [oL, locF, locFL, locF_e, locFL_ints, locF_mkL, Bool.and_self]
theorem l_both (hm : m.Ok) (hp : POk m p) : run P (n + 4) 362 [rig m r1 r2, pe p, st.e] [] = .ok (eP (bothP m r1 r2 p st)) [] := by
  have i1 := fun k M => l_steps (n := k) (M := M) hm hp.1
  have i2 := fun k M => l_steps (n := k) (M := M) hm hp.2
  have g0 := fun M => rig_0 (m := m) (r1 := r1) (r2 := r2) (M := M)
  have g1 := fun M => rig_1 (m := m) (r1 := r1) (r2 := r2) (M := M)
  have g2 := fun M => rig_2 (m := m) (r1 := r1) (r2 := r2) (M := M)
  simp only [go362]
  unfold bothP
  cases h1 : (stepsP m p.1).contains st with
  | false =>
    (fail_if_success skip)
    rfl
  | true =>
    cases h2 : (stepsP m p.2).contains st with
    | false =>
      (fail_if_success skip)
      rfl
    | true =>
      have m1 := List.contains_iff_mem.mp h1
      have m2 := List.contains_iff_mem.mp h2
      have d1 := fun k M => l_did (n := k) (M := M) (r := r1) hm hp.1 m1
      have d2 := fun k M => l_did (n := k) (M := M) (r := r2) hm hp.2 m2
      have o1 := fun M => oL_0 (s := p.1) (o := didP m r1 p.1 st) (M := M)
      have o2 := fun M => oL_0 (s := p.2) (o := didP m r2 p.2 st) (M := M)
      have o3 := fun M => oL_1 (s := p.1) (o := didP m r1 p.1 st) (M := M)
      have o4 := fun M => oL_1 (s := p.2) (o := didP m r2 p.2 st) (M := M)
      have o5 := locF_oL (s := p.1) (o := didP m r1 p.1 st)
      have o6 := locF_oL (s := p.2) (o := didP m r2 p.2 st)
      (fail_if_success skip)
      clear d1 d2 i1 i2 h1 h2 m1 m2 g0 g1 g2 o1 o2 o3 o4 o5 o6
      generalize didP m r1 p.1 st = o1
      generalize didP m r2 p.2 st = o2
      generalize usesB p.1 o1.u = b1
      generalize usesB p.2 o2.u = b2
      by_cases c1 : o1.u = o2.u <;> cases b1 <;> cases b2 <;> cases h3 : o1.l <;> cases h4 : o2.l <;> simp [c1, eP, pe]
theorem l_any (hm : m.Ok) (hp : POk m p) : run P (n + 4) 363 [rig m r1 r2, pe p] [] = .ok (.lst ((anyP m p).map Stp.e)) [] := by
  have i1 := fun k M => l_steps (n := k) (M := M) hm hp.1
  have i2 := fun k M => l_steps (n := k) (M := M) hm hp.2
  have g0 := fun M => rig_0 (m := m) (r1 := r1) (r2 := r2) (M := M)
  have l1 := stepsP_len (s := p.1) hm
  have l2 := stepsP_len (s := p.2) hm
  have l3 := List.length_filter_le (fun st => !(stepsP m p.1).contains st) (stepsP m p.2)
  simp only [go363]
  (fail_if_success skip)
  rw [lc_map (fun st => !(stepsP m p.1).contains st) Stp.e (fun x hx => by (fail_if_success skip); cases (stepsP m p.1).contains x <;> rfl) (by unfold mostLen; omega)]
  (fail_if_success skip)
  unfold anyP
  rw [List.map_append]
end
end Zk.K03
-- Zl2_03
namespace Zk.K03
open PySem Zk
local macro_rules | `(tactic| fail_if_success skip) => `(tactic| simp -dsimp -implicitDefEqProofs (disch := (refine id ?_; first | decide | omega | (simp only [List.length_cons, List.length_nil, List.length_append, List.length_map, mostLen, locFL, locF, locFL_ints, locF_eH, locF_eL, locF_eI, locF_e, locF_v, locF_p, locF_m, locF_stp, locFL_stp, locF_cE, locFL_pes, locF_mk, locF_mkL, locF_pe, locF_eP, Bool.and_self]; done) | (simp only [List.length_cons, List.length_nil, List.length_append, List.length_map, mostLen, locFL, locF, locFL_ints, locF_eH, locF_eL, locF_eI, locF_e, locF_v, locF_p, locF_m, locF_stp, locFL_stp, locF_cE, locFL_pes, locF_mk, locF_mkL, locF_pe, locF_eP, Bool.and_self]; omega) | (simp only [List.length_cons, List.length_nil, List.length_append, List.length_map, mostLen, locFL, locF, locFL_ints, locF_eH, locF_eL, locF_eI, locF_e, locF_v, locF_p, locF_m, locF_stp, locFL_stp, locF_cE, locFL_pes, locF_mk, locF_mkL, locF_pe, locF_eP, Bool.and_self, *]; done) | fail)) only [
  ↓ev_anil, ↓ev_acons, ↓ev_astar, ↓ev_var, ↓ev_cst, ↓ev_glb, ↓ev_tup', ↓ev_lst', ↓ev_lstM', ↓ev_dct0, ↓ev_dct1, ↓ev_bop, ↓ev_neg, ↓ev_cmp, ↓ev_chain, ↓ev_isN, ↓ev_notN, ↓ev_notT, ↓ev_notE, ↓ev_dne, ↓ev_lenO, ↓ev_and, ↓ev_or, ↓ev_ife, ↓ev_attr, ↓ev_sub, ↓ev_slc, ↓ev_rev, ↓ev_call, ↓ev_make, ↓ev_mkK, ↓ev_meth, ↓ev_blt_q, ↓ev_bm_q, ↓ev_isi, ↓ev_lc, ↓ev_dc, ↓ev_frz,
  ↓ex_nil, ↓ex_cons, ↓ex_expr, ↓ex_set, ↓ex_asg, ↓ex_par, ↓ex_setA, ↓ex_asgA, ↓ex_setI, ↓ex_ret, ↓ex_retN, ↓ex_ife, ↓ex_for, ↓ex_pass, ↓ex_cont,
  ↓look_z, ↓look_s, ↓setS_z, ↓setS_s, setMany_n, ↓setMany_c, bargs_tup, bind_ok, toS_ok, then_nx, then_rt, fin_nx, fin_rt, of_some, ofB_some_q, br_bl, optB_some, optS_some, optM_some, asgS_tup, asgAS_tup, chainV_some, bind_ite, toS_ite, then_ite, fin_ite, ok_bl_ite, ok_word_ite, fst_fold, Option.isNone_none, Option.isNone_some, Option.isSome_none, Option.isSome_some,
  thaw_tup_q, thaw_lst, thaw_str, thaw_int, thaw_non, seqV_tup, seqV_lst, len_tup, len_lst, lt_int, le_int, gt_int, ge_int, eq_int, ne_int, cmp_in, cmp_notin, eq_word, ne_word, eq_hand, eq_eI, ne_ti_nil, in_ti, bop_add, bop_sub, neg_int, not_bl, sub_tup, sub_lst, at0, at5_1, at5_2, at5_3, at5_4, at2_1, at3_1, at3_2, at_map, slc_tup, slc_lst, cut_map, part_none, part_int, isAnil_anil, isAnil_cst, isAnil_var, isAnil_neg, isAnil_bop, isNV_eL, isNV_eI, isNV_non, isNV_tup, isNV_lst, isNV_int, tupV_ok, lstV_ok, lstMV_ok, isoEnd_ok, callT, callF, bop_addT, bop_addL,
  lcTurn_eq, turnV_bl, valO_ok, setT_one, setT_many, wipeS_n, ↓wipeS_c, wip_z, wip_s, all_bl, any_bl, srt_ints, srt_intsT, tupl_lst, tupl_tup, lstF_lst, lstF_tup, lrng_int, walk_tup, walk_lst, walk_rng, walk_zipT, walk_zipL, lenEnd_int, cast_0, cast_1, cast_2, cast_3, cast_5, Bool.and_self, ↓len_t0, ↓len_t1, ↓len_t2, ↓len_t5, Nat.reduceAdd, Int.reduceLE, Int.reduceLT, Int.reduceEq, Int.reduceAdd, Int.reduceSub, Int.reduceNeg, Int.reduceMul, mm_0, mm_1, mm_2, st_ld0, st_ld1, st_ag0, st_ag1, st_w0, ne_li_nil, eq_um, lc_nil, ne_nil_nil, dl_sub1, dl_sub0, dl_in0, dl_len1, dl_len0, dl_set0, dl_app, dl_appOk, dl_popOk, dl_pop, dl_thaw, dl_frz1, dl_frz0, isNV_fw, isNV_pe, isNV_cE, dcTurn_eq, turnD_bl, valK_ok, key_pe_if, walk_dct, in_w3, in_stps, ne_ti, eq_ti, dne_mk, isNV_eP, pe_0, pe_1, asg_se, slc_se, makeF, mkEnd_ok, makeT, mkEndT_ok,
  Option.map_some, Bool.not_not, if_true, if_false, ↓reduceIte, List.append_nil, List.cons_append, List.nil_append, List.length_map, List.length_cons, List.length_nil, decide_eq_true_eq, Bool.not_true, Bool.not_false, reduceCtorEq, decide_false, decide_true, Bool.false_eq_true, List.singleton_append, map_snoc, map_app, Option.some.injEq, and_true, true_and, and_false, false_and, g_mq, a_plan, a_rules, a_phase, a_loaded, a_queue, a_emptied, a_helper, s_phase, s_loaded, s_queue, s_emptied, s_helper, s_used, s_lost, m_enqueue, m_begin, m_load, m_stop, m_end, m_taken, m_do_next, m_fail, m_empty, m_go_on, m_do, m_do_late, p_leans, p_adds, p_helper, p_len, g_ru0, g_ru1, g_ru2, g_ru3, g_ru4, g_s0, g_s1, g_s2, g_s3, g_s4, g_end, g_most, g_parts, g_i3, g_i2, g_i1, g_i0, g_iP, s_du, s_dl, s_dul, s_frzD, g_rules, g_ruI, g_ruL, m_frz, m_init14, m_init13, a_oused, a_olost, a_ophase, a_oloaded, a_oqueue, a_oemptied, a_ohelper, m_state_now, b3, b4, b5, b6, b7, b8, b10, b14, b15, b16, b18, b19, b20, b21, b22, b23, b24, b25, b26, b27, b28, b29, b30, b31, b32, b33, b34, b35, b36, b37, b38, b39, b109, b110, b111, b112, b114, b115, b117, b118, b119, b120, b349, b350, b351, b352, b353, b354, b355, b356, b357, b358, b359, b360, b361, b362, b363, b364, b365, b366, b367, b368, b369, *])

section
variable {n : Nat} {r r1 r2 : Ru} {m : Mo} {M : Store} {s : S} {st : Stp} {p : S × S} {c : List Stp} {b : B} {k : Nat}
/-- the law's store -/
def lM (b : B) : Store := dl (b.line.map pe) (b.crs.map fun c => .int c.length) (b.line.map pe)
def lρ (m : Mo) (r1 r2 : Ru) (k : Nat) (x : B × Option PV × Option PV) : Sl := [some (rig m r1 r2), some (pe (s0 m, s0 m)), some (.loc 0), some (.loc 1), some (.int k), some (fwE x.1.part), x.2.1, x.2.2]
theorem l_iter (hm : m.Ok) (hb : b.Ok m r1 r2) (hl : b.line.length < 1000000) (hp : b.line[k]? = some p) (hc : b.crs[k]? = some c) (x : Option PV) : exec t.tabs (run P (n + 4)) 100000 b364_1 [some (rig m r1 r2), some (pe (s0 m, s0 m)), some (.loc 0), some (.loc 1), some (.int k), some (fwE b.part), some st.e, x] (lM b) = .nx (lρ m r1 r2 k (stepB m r1 r2 p c b st, some st.e, some (eP (bothP m r1 r2 p st)))) (lM (stepB m r1 r2 p c b st)) := by
  have hpo := hb.ok p (List.mem_of_getElem? hp)
  have e1 := fun k => l_both (n := k) (r1 := r1) (r2 := r2) (st := st) hm hpo
  have e2 : atI (b.line.map pe) (k : Int) = some (pe p) := by rw [atI_nat, List.getElem?_map, hp]; rfl
  have e3 : dget (pe p) (b.line.map pe) (b.crs.map fun c => PV.int c.length) = some (.int c.length) := by
    rw [dget_at eqB_pe hb.nd hp (by rw [List.length_map]; exact hb.len), List.getElem?_map, hc]; rfl
  have lr : locF (rig m r1 r2) = true := by simp only [rig, locF, locFL, locF_m, locF_v, Bool.and_self]
  unfold b364_1 lM lρ
  cases hx : bothP m r1 r2 p st with
  | none =>
    have es : stepB m r1 r2 p c b st = if b.part = none then { b with part := some (c ++ [st]) } else b := by unfold stepB; rw [hx]
    rw [es]
    cases h1 : b.part with
    | none =>
      (fail_if_success skip)
      rw [fw_some, List.length_append]
      rfl
    | some d =>
      (fail_if_success skip)
  | some p' =>
    have es : stepB m r1 r2 p c b st = if b.line.contains p' then b else { b with line := b.line ++ [p'], crs := b.crs ++ [c ++ [st]] } := by unfold stepB; rw [hx]
    have e4 : b.line.length = (b.crs.map fun c => PV.int c.length).length := by rw [List.length_map]; exact hb.len
    have e5 : eP (some p') = pe p' := rfl
    rw [es]
    cases h2 : b.line.contains p' with
    | true =>
      (fail_if_success skip)
    | false =>
      (fail_if_success skip)
      simp
theorem any_len (hm : m.Ok) : (anyP m p).length ≤ 30 := by
  have l1 := stepsP_len (s := p.1) hm
  have l2 := stepsP_len (s := p.2) hm
  have l3 := List.length_filter_le (fun st => !(stepsP m p.1).contains st) (stepsP m p.2)
  unfold anyP
  rw [List.length_append]
  omega
theorem fold_fst {α β γ : Type} {g : β → α → β} {h : β × γ → α → γ} : ∀ {xs : List α} {b : β} {c : γ}, (xs.foldl (fun (z : β × γ) x => (g z.1 x, h z x)) (b, c)).1 = xs.foldl g b
  | [], b, c => rfl
  | x :: xs, b, c => by rw [List.foldl_cons, List.foldl_cons]; exact fold_fst
theorem l_turn (hm : m.Ok) (hb : b.Ok m r1 r2) (hl : b.line.length ≤ 300) (hk : k < b.line.length) (x y : Option PV) : ∃ x' y', exec t.tabs (run P (n + 4)) 100000 b364_2 (lρ m r1 r2 k (b, x, y)) (lM b) = if (turnB m r1 r2 b k).line.length > 300 then .rt .non (lM (turnB m r1 r2 b k)) else .nx (lρ m r1 r2 (k + 1) (turnB m r1 r2 b k, x', y')) (lM (turnB m r1 r2 b k)) := by
  obtain ⟨p, hp⟩ : ∃ p, b.line[k]? = some p := ⟨_, List.getElem?_eq_getElem hk⟩
  obtain ⟨c, hc⟩ : ∃ c, b.crs[k]? = some c := ⟨_, List.getElem?_eq_getElem (by rw [← hb.len]; exact hk)⟩
  have hpo := hb.ok p (List.mem_of_getElem? hp)
  have e1 := fun k => l_any (n := k) (r1 := r1) (r2 := r2) hm hpo
  have e2 : atI (b.line.map pe) (k : Int) = some (pe p) := by rw [atI_nat, List.getElem?_map, hp]; rfl
  have lr : locF (rig m r1 r2) = true := by simp only [rig, locF, locFL, locF_m, locF_v, Bool.and_self]
  have al := any_len (p := p) hm
  have et : turnB m r1 r2 b k = (anyP m p).foldl (stepB m r1 r2 p c) b := by unfold turnB; rw [hp, hc]
  have key := for_ind (tg := .one 6) (body := exec t.tabs (run P (n + 4)) 100000 b364_1) (f := Stp.e) (lρ m r1 r2 k) (fun x => lM x.1)
    (fun j x => x.1.Ok m r1 r2 ∧ x.1.line.length + j ≤ 900000 ∧ x.1.line[k]? = some p ∧ x.1.crs[k]? = some c)
    (fun x st => (stepB m r1 r2 p c x.1 st, (fun (z : B × Option PV × Option PV) (st : Stp) => (some st.e, some (eP (bothP m r1 r2 p st)))) x st)) (xs := anyP m p) (b := (b, x, y))
    (fun st hs j z hz => by
      obtain ⟨z1, z2, z3, z4⟩ := hz
      refine ⟨⟨step_ok hm z1 hpo (List.mem_of_getElem? z4) (hb.go k p c hp hc) hs, ?_, step_le.at_ z3, step_le.crsAt z4⟩, _, rfl, l_iter hm z1 (by omega) z3 z4 _⟩
      show (stepB m r1 r2 p c z.1 st).line.length + j ≤ 900000
      have : (stepB m r1 r2 p c z.1 st).line.length ≤ z.1.line.length + 1 := by
        unfold stepB
        split
        · split
          · exact Nat.le_succ _
          · exact Nat.le_succ _
        · split
          · exact Nat.le_succ _
          · simp
      omega) ⟨hb, by simp only; omega, hp, hc⟩
  obtain ⟨key, -⟩ := key
  have ef : ((anyP m p).foldl (fun (z : B × Option PV × Option PV) st => (stepB m r1 r2 p c z.1 st, (fun (z : B × Option PV × Option PV) (st : Stp) => (some st.e, some (eP (bothP m r1 r2 p st)))) z st)) (b, x, y)).1 = turnB m r1 r2 b k := by rw [et]; exact fold_fst
  generalize (anyP m p).foldl (fun (z : B × Option PV × Option PV) st => (stepB m r1 r2 p c z.1 st, (fun (z : B × Option PV × Option PV) (st : Stp) => (some st.e, some (eP (bothP m r1 r2 p st)))) z st)) (b, x, y) = w at key ef
  obtain ⟨w1, w2, w3⟩ := w
  simp only at ef
  subst ef
  refine ⟨w2, w3, ?_⟩
  simp only [lρ, lM] at key
  unfold b364_2 lρ lM
  clear hm hb hpo hp hc et
  (fail_if_success skip)
  generalize turnB m r1 r2 b k = b2
  by_cases h3 : b2.line.length > 300
  · rw [if_pos (by omega), if_pos h3]
  · rw [if_neg (by omega), if_neg h3]; rfl
theorem l_cond (x y : Option PV) : ev t.tabs (run P n) b364_0 (lρ m r1 r2 k (b, x, y)) (lM b) = .ok (.bl (decide (k < b.line.length))) (lM b) := by
  unfold b364_0 lρ lM
  have e : decide ((k : Int) < (b.line.length : Int)) = decide (k < b.line.length) := decide_eq_decide.mpr (by omega)
  (fail_if_success skip)
theorem l_while (hm : m.Ok) : ∀ (F k : Nat) (x y : Option PV), 302 ≤ F + k → (∀ j, j < k → j < (bfsN m r1 r2 j).line.length) → (bfsN m r1 r2 k).line.length ≤ 300 →
    (∃ M', whileLoop (ev t.tabs (run P (n + 4)) b364_0) (exec t.tabs (run P (n + 4)) 100000 b364_2) F (lρ m r1 r2 k (bfsN m r1 r2 k, x, y)) (lM (bfsN m r1 r2 k)) = .rt .non M') ∨
    (∃ K x' y', Fin' m r1 r2 K ∧ whileLoop (ev t.tabs (run P (n + 4)) b364_0) (exec t.tabs (run P (n + 4)) 100000 b364_2) F (lρ m r1 r2 k (bfsN m r1 r2 k, x, y)) (lM (bfsN m r1 r2 k)) = .nx (lρ m r1 r2 K (bfsN m r1 r2 K, x', y')) (lM (bfsN m r1 r2 K)))
  | 0, k, x, y, hF, hk, hl => by
    have hb := bfs_ok (r1 := r1) (r2 := r2) hm 301
    exfalso
    have h1 := hk 301 (by omega)
    have h2 := (bfs_le (m := m) (r1 := r1) (r2 := r2) 301 (k - 301)).len
    rw [show 301 + (k - 301) = k from by omega] at h2
    omega
  | F + 1, k, x, y, hF, hk, hl => by
    unfold whileLoop
    rw [l_cond]
    by_cases h : k < (bfsN m r1 r2 k).line.length
    · simp only [h, decide_true]
      obtain ⟨x', y', e⟩ := l_turn (n := n) hm (bfs_ok (r1 := r1) (r2 := r2) hm k) hl h x y
      rw [e]
      have ek : turnB m r1 r2 (bfsN m r1 r2 k) k = bfsN m r1 r2 (k + 1) := rfl
      rw [ek]
      by_cases h3 : (bfsN m r1 r2 (k + 1)).line.length > 300
      · rw [if_pos h3]
        exact .inl ⟨_, rfl⟩
      · rw [if_neg h3]
        exact l_while hm F (k + 1) x' y' (by omega) (fun j hj => by
          rcases Nat.lt_or_ge j k with z | z
          · exact hk j z
          · rw [show j = k from by omega]; exact h) (by omega)
    · simp only [h, decide_false]
      exact .inr ⟨k, x, y, ⟨hk, by omega, hl⟩, rfl⟩
theorem l_pairs (hm : m.Ok) : (∃ M', run P (n + 5) 364 [rig m r1 r2] [] = .ok .non M') ∨ (∃ K M', Fin' m r1 r2 K ∧ run P (n + 5) 364 [rig m r1 r2] [] = .ok (.tup [.lst ((bfsN m r1 r2 K).line.map pe), fwE (bfsN m r1 r2 K).part]) M') := by
  have g0 := fun M => rig_0 (m := m) (r1 := r1) (r2 := r2) (M := M)
  have lb := fun k M => l_begin (m := m) (n := k) (M := M)
  have kp : keyOk true (.tup [(s0 m).e, (s0 m).e]) = true := key_pe (s0 m, s0 m)
  have w := l_while (n := n) (r1 := r1) (r2 := r2) hm 100000 0 none none (by omega) (fun j hj => by omega) (by simp [bfsN, b0])
  have e0 : lM (bfsN m r1 r2 0) = [.dct true [.tup [(s0 m).e, (s0 m).e]] [.int 0], .lst [.tup [(s0 m).e, (s0 m).e]]] := rfl
  have e1 : lρ m r1 r2 0 (bfsN m r1 r2 0, none, none) = [some (rig m r1 r2), some (.tup [(s0 m).e, (s0 m).e]), some (.loc 0), some (.loc 1), some (.int 0), some .non, none, none] := rfl
  rw [e0, e1] at w
  simp only [go364]
  (fail_if_success skip)
  simp only [ex_whil]
  rcases w with ⟨M', e⟩ | ⟨K, x', y', hF, e⟩
  · rw [e]
    exact .inl ⟨M', rfl⟩
  · rw [e]
    refine .inr ⟨K, [.dct true ((bfsN m r1 r2 K).line.map pe) ((bfsN m r1 r2 K).crs.map fun c => .int c.length), .dead], hF, ?_⟩
    unfold lρ lM
    clear e e0 e1
    (fail_if_success skip)
end
end Zk.K03
-- Zl3_03
namespace Zk.K03
open PySem Zk
local macro_rules | `(tactic| fail_if_success skip) => `(tactic| simp -dsimp -implicitDefEqProofs (disch := (refine id ?_; first | decide | omega | (simp only [List.length_cons, List.length_nil, List.length_append, List.length_map, mostLen, locFL, locF, locFL_ints, locF_eH, locF_eL, locF_eI, locF_e, locF_v, locF_p, locF_m, locF_stp, locFL_stp, locF_cE, locFL_pes, locF_mk, locF_mkL, locF_pe, locF_eP, Bool.and_self]; done) | (simp only [List.length_cons, List.length_nil, List.length_append, List.length_map, mostLen, locFL, locF, locFL_ints, locF_eH, locF_eL, locF_eI, locF_e, locF_v, locF_p, locF_m, locF_stp, locFL_stp, locF_cE, locFL_pes, locF_mk, locF_mkL, locF_pe, locF_eP, Bool.and_self]; omega) | (simp only [List.length_cons, List.length_nil, List.length_append, List.length_map, mostLen, locFL, locF, locFL_ints, locF_eH, locF_eL, locF_eI, locF_e, locF_v, locF_p, locF_m, locF_stp, locFL_stp, locF_cE, locFL_pes, locF_mk, locF_mkL, locF_pe, locF_eP, Bool.and_self, *]; done) | fail)) only [
  ↓ev_anil, ↓ev_acons, ↓ev_astar, ↓ev_var, ↓ev_cst, ↓ev_glb, ↓ev_tup', ↓ev_lst', ↓ev_lstM', ↓ev_dct0, ↓ev_dct1, ↓ev_bop, ↓ev_neg, ↓ev_cmp, ↓ev_chain, ↓ev_isN, ↓ev_notN, ↓ev_notT, ↓ev_notE, ↓ev_dne, ↓ev_lenO, ↓ev_and, ↓ev_or, ↓ev_ife, ↓ev_attr, ↓ev_sub, ↓ev_slc, ↓ev_rev, ↓ev_call, ↓ev_make, ↓ev_mkK, ↓ev_meth, ↓ev_blt_q, ↓ev_bm_q, ↓ev_isi, ↓ev_lc, ↓ev_dc, ↓ev_frz,
  ↓ex_nil, ↓ex_cons, ↓ex_expr, ↓ex_set, ↓ex_asg, ↓ex_par, ↓ex_setA, ↓ex_asgA, ↓ex_setI, ↓ex_ret, ↓ex_retN, ↓ex_ife, ↓ex_for, ↓ex_pass, ↓ex_cont,
  ↓look_z, ↓look_s, ↓setS_z, ↓setS_s, setMany_n, ↓setMany_c, bargs_tup, bind_ok, toS_ok, then_nx, then_rt, fin_nx, fin_rt, of_some, ofB_some_q, br_bl, optB_some, optS_some, optM_some, asgS_tup, asgAS_tup, chainV_some, bind_ite, toS_ite, then_ite, fin_ite, ok_bl_ite, ok_word_ite, fst_fold, Option.isNone_none, Option.isNone_some, Option.isSome_none, Option.isSome_some,
  thaw_tup_q, thaw_lst, thaw_str, thaw_int, thaw_non, seqV_tup, seqV_lst, len_tup, len_lst, lt_int, le_int, gt_int, ge_int, eq_int, ne_int, cmp_in, cmp_notin, eq_word, ne_word, eq_hand, eq_eI, ne_ti_nil, in_ti, bop_add, bop_sub, neg_int, not_bl, sub_tup, sub_lst, at0, at5_1, at5_2, at5_3, at5_4, at2_1, at3_1, at3_2, at_map, slc_tup, slc_lst, cut_map, part_none, part_int, isAnil_anil, isAnil_cst, isAnil_var, isAnil_neg, isAnil_bop, isNV_eL, isNV_eI, isNV_non, isNV_tup, isNV_lst, isNV_int, tupV_ok, lstV_ok, lstMV_ok, isoEnd_ok, callT, callF, bop_addT, bop_addL,
  lcTurn_eq, turnV_bl, valO_ok, setT_one, setT_many, wipeS_n, ↓wipeS_c, wip_z, wip_s, all_bl, any_bl, srt_ints, srt_intsT, tupl_lst, tupl_tup, lstF_lst, lstF_tup, lrng_int, walk_tup, walk_lst, walk_rng, walk_zipT, walk_zipL, lenEnd_int, cast_0, cast_1, cast_2, cast_3, cast_5, Bool.and_self, ↓len_t0, ↓len_t1, ↓len_t2, ↓len_t5, Nat.reduceAdd, Int.reduceLE, Int.reduceLT, Int.reduceEq, Int.reduceAdd, Int.reduceSub, Int.reduceNeg, Int.reduceMul, mm_0, mm_1, mm_2, st_ld0, st_ld1, st_ag0, st_ag1, st_w0, ne_li_nil, eq_um, lc_nil, ne_nil_nil, dl_sub1, dl_sub0, dl_in0, dl_len1, dl_len0, dl_set0, dl_app, dl_appOk, dl_popOk, dl_pop, dl_thaw, dl_frz1, dl_frz0, isNV_fw, isNV_pe, isNV_cE, dcTurn_eq, turnD_bl, valK_ok, key_pe_if, walk_dct, in_w3, in_stps, ne_ti, eq_ti, dne_mk, isNV_eP, pe_0, pe_1, asg_se, slc_se, makeF, mkEnd_ok, makeT, mkEndT_ok,
  Option.map_some, Bool.not_not, if_true, if_false, ↓reduceIte, List.append_nil, List.cons_append, List.nil_append, List.length_map, List.length_cons, List.length_nil, decide_eq_true_eq, Bool.not_true, Bool.not_false, reduceCtorEq, decide_false, decide_true, Bool.false_eq_true, List.singleton_append, map_snoc, map_app, Option.some.injEq, and_true, true_and, and_false, false_and, g_mq, a_plan, a_rules, a_phase, a_loaded, a_queue, a_emptied, a_helper, s_phase, s_loaded, s_queue, s_emptied, s_helper, s_used, s_lost, m_enqueue, m_begin, m_load, m_stop, m_end, m_taken, m_do_next, m_fail, m_empty, m_go_on, m_do, m_do_late, p_leans, p_adds, p_helper, p_len, g_ru0, g_ru1, g_ru2, g_ru3, g_ru4, g_s0, g_s1, g_s2, g_s3, g_s4, g_end, g_most, g_parts, g_i3, g_i2, g_i1, g_i0, g_iP, s_du, s_dl, s_dul, s_frzD, g_rules, g_ruI, g_ruL, m_frz, m_init14, m_init13, a_oused, a_olost, a_ophase, a_oloaded, a_oqueue, a_oemptied, a_ohelper, m_state_now, b3, b4, b5, b6, b7, b8, b10, b14, b15, b16, b18, b19, b20, b21, b22, b23, b24, b25, b26, b27, b28, b29, b30, b31, b32, b33, b34, b35, b36, b37, b38, b39, b109, b110, b111, b112, b114, b115, b117, b118, b119, b120, b349, b350, b351, b352, b353, b354, b355, b356, b357, b358, b359, b360, b361, b362, b363, b364, b365, b366, b367, b368, b369, *])

section
variable {n : Nat} {r r1 r2 : Ru} {m : Mo} {M : Store} {s : S} {st : Stp} {p : S × S} {c : List Stp} {b : B} {k : Nat}
def ptE : Option (List Stp) → PV
  | none => .non
  | some c => cE c
theorem isNV_pt {o : Option (List Stp)} : isNV (ptE o) = some o.isNone := by cases o <;> rfl
theorem thaw_cE : thaw (cE c) M = .tup (c.map Stp.e) := rfl
theorem cE_snoc : PV.tup (c.map Stp.e ++ [st.e]) = cE (c ++ [st]) := by simp [cE]
def pM (b : B) (k : Nat) : Store := dl (b.line.map pe) (b.crs.map cE) ((b.line.drop k).map pe)
def pρ (m : Mo) (r1 r2 : Ru) (z : Option PV) (x : B × Option PV × Option PV) : Sl := [some m.p, some r1.v, some r2.v, some (pe (s0 m, s0 m)), some (ptE x.1.part), some (.loc 0), some (.loc 1), z, x.2.1, x.2.2]
theorem p_iter (hm : m.Ok) (hb : b.Ok m r1 r2) (hl : b.line.length ≤ 330) (hk : k ≤ b.line.length) {j : Nat} (hp : b.line[j]? = some p) (hc : b.crs[j]? = some c) (x : Option PV) : exec t.tabs (run P (n + 8)) 100000 b118_1 [some m.p, some r1.v, some r2.v, some (pe (s0 m, s0 m)), some (ptE b.part), some (.loc 0), some (.loc 1), some (pe p), some st.e, x] (pM b k) = .nx (pρ m r1 r2 (some (pe p)) (stepB m r1 r2 p c b st, some st.e, some (eP (bothP m r1 r2 p st)))) (pM (stepB m r1 r2 p c b st) k) := by
  have hpo := hb.ok p (List.mem_of_getElem? hp)
  have e1 := fun k => r_both (n := k) (r1 := r1) (r2 := r2) (st := st) hm hpo
  have e3 : dget (pe p) (b.line.map pe) (b.crs.map cE) = some (cE c) := by
    rw [dget_at eqB_pe hb.nd hp (by rw [List.length_map]; exact hb.len), List.getElem?_map, hc]; rfl
  have h6 : ¬ ((b.line.length : Int) = 600) := by omega
  have h7 : ¬ ((b.crs.length : Int) = 600) := by rw [← hb.len]; omega
  have tc := fun M => thaw_cE (c := c) (M := M)
  have hcl : c.length ≤ 330 := by
    have := hb.cl c (List.mem_of_getElem? hc)
    rw [← hb.len] at this
    omega
  have ip := @isNV_pt
  unfold b118_1 pM pρ
  cases hx : bothP m r1 r2 p st with
  | none =>
    have es : stepB m r1 r2 p c b st = if b.part = none then { b with part := some (c ++ [st]) } else b := by unfold stepB; rw [hx]
    rw [es]
    cases h1 : b.part with
    | none =>
      (fail_if_success skip)
      rw [cE_snoc]
      rfl
    | some d =>
      (fail_if_success skip)
  | some p' =>
    have es : stepB m r1 r2 p c b st = if b.line.contains p' then b else { b with line := b.line ++ [p'], crs := b.crs ++ [c ++ [st]] } := by unfold stepB; rw [hx]
    have e4 : b.line.length = (b.crs.map cE).length := by rw [List.length_map]; exact hb.len
    have e5 : eP (some p') = pe p' := rfl
    have e6 : ((b.line.drop k).map pe).length < 1000000 := by rw [List.length_map, List.length_drop]; omega
    rw [es]
    cases h2 : b.line.contains p' with
    | true =>
      (fail_if_success skip)
    | false =>
      have e7 : (b.line ++ [p']).drop k = b.line.drop k ++ [p'] := List.drop_append_of_le_length hk
      (fail_if_success skip)
      rw [cE_snoc]
      simp
theorem p_turn (hm : m.Ok) (hb : b.Ok m r1 r2) (hl : b.line.length ≤ 300) (hk : k < b.line.length) (z x y : Option PV) : ∃ z' x' y', exec t.tabs (run P (n + 8)) 100000 b118_2 (pρ m r1 r2 z (b, x, y)) (pM b k) = .nx (pρ m r1 r2 z' (turnB m r1 r2 b k, x', y')) (pM (turnB m r1 r2 b k) (k + 1)) := by
  obtain ⟨p, hp⟩ : ∃ p, b.line[k]? = some p := ⟨_, List.getElem?_eq_getElem hk⟩
  obtain ⟨c, hc⟩ : ∃ c, b.crs[k]? = some c := ⟨_, List.getElem?_eq_getElem (by rw [← hb.len]; exact hk)⟩
  have hpo := hb.ok p (List.mem_of_getElem? hp)
  have e1 := fun k => r_any (n := k) (p := p) hm
  have al := any_len (p := p) hm
  have et : turnB m r1 r2 b k = (anyP m p).foldl (stepB m r1 r2 p c) b := by unfold turnB; rw [hp, hc]
  have ed : b.line.drop k = p :: b.line.drop (k + 1) := by
    rw [List.drop_eq_getElem_cons hk]
    rw [List.getElem?_eq_getElem hk] at hp
    injection hp with hp
    rw [hp]
  have key := for_ind (tg := .one 8) (body := exec t.tabs (run P (n + 8)) 100000 b118_1) (f := Stp.e) (pρ m r1 r2 (some (pe p))) (fun x => pM x.1 (k + 1))
    (fun j x => x.1.Ok m r1 r2 ∧ x.1.line.length + j ≤ 330 ∧ x.1.line[k]? = some p ∧ x.1.crs[k]? = some c)
    (fun x st => (stepB m r1 r2 p c x.1 st, (fun (z : B × Option PV × Option PV) (st : Stp) => (some st.e, some (eP (bothP m r1 r2 p st)))) x st)) (xs := anyP m p) (b := (b, x, y))
    (fun st hs j z hz => by
      obtain ⟨z1, z2, z3, z4⟩ := hz
      have z5 := (List.getElem?_eq_some_iff.mp z3).1
      refine ⟨⟨step_ok hm z1 hpo (List.mem_of_getElem? z4) (hb.go k p c hp hc) hs, ?_, step_le.at_ z3, step_le.crsAt z4⟩, _, rfl, p_iter hm z1 (by omega) (by omega) z3 z4 _⟩
      show (stepB m r1 r2 p c z.1 st).line.length + j ≤ 330
      have : (stepB m r1 r2 p c z.1 st).line.length ≤ z.1.line.length + 1 := by
        unfold stepB
        split
        · split
          · exact Nat.le_succ _
          · exact Nat.le_succ _
        · split
          · exact Nat.le_succ _
          · simp
      omega) ⟨hb, by simp only; omega, hp, hc⟩
  obtain ⟨key, -⟩ := key
  have ef : ((anyP m p).foldl (fun (z : B × Option PV × Option PV) st => (stepB m r1 r2 p c z.1 st, (fun (z : B × Option PV × Option PV) (st : Stp) => (some st.e, some (eP (bothP m r1 r2 p st)))) z st)) (b, x, y)).1 = turnB m r1 r2 b k := by rw [et]; exact fold_fst
  generalize (anyP m p).foldl (fun (z : B × Option PV × Option PV) st => (stepB m r1 r2 p c z.1 st, (fun (z : B × Option PV × Option PV) (st : Stp) => (some st.e, some (eP (bothP m r1 r2 p st)))) z st)) (b, x, y) = w at key ef
  obtain ⟨w1, w2, w3⟩ := w
  simp only at ef
  subst ef
  refine ⟨some (pe p), w2, w3, ?_⟩
  simp only [pρ, pM] at key
  unfold b118_2 pρ pM
  rw [ed, List.map_cons]
  clear hm hb hpo hp hc et ed
  (fail_if_success skip)
theorem p_cond (z x y : Option PV) : ev t.tabs (run P n) b118_0 (pρ m r1 r2 z (b, x, y)) (pM b k) = .ok (.bl (decide (k < b.line.length))) (pM b k) := by
  unfold b118_0 pρ pM
  have e : cmpV (dl (b.line.map pe) (b.crs.map cE) ((b.line.drop k).map pe)) .ne (.loc 1) (.lst []) = some (decide (k < b.line.length)) := by
    rw [ne_pes (l := b.line.drop k) dl_thaw]
    congr 1
    have h : (b.line.drop k).isEmpty = decide (b.line.length ≤ k) := by rw [Bool.eq_iff_iff]; simp [List.isEmpty_iff]
    rw [h, ← decide_not]
    exact decide_eq_decide.mpr (by omega)
  (fail_if_success skip)
theorem p_while (hm : m.Ok) {K : Nat} (hF : Fin' m r1 r2 K) : ∀ (F k : Nat) (z x y : Option PV), K < F + k → k ≤ K →
    ∃ z' x' y', whileLoop (ev t.tabs (run P (n + 8)) b118_0) (exec t.tabs (run P (n + 8)) 100000 b118_2) F (pρ m r1 r2 z (bfsN m r1 r2 k, x, y)) (pM (bfsN m r1 r2 k) k) = .nx (pρ m r1 r2 z' (bfsN m r1 r2 K, x', y')) (pM (bfsN m r1 r2 K) K)
  | 0, k, z, x, y, hF', hk => by omega
  | F + 1, k, z, x, y, hF', hk => by
    unfold whileLoop
    rw [p_cond]
    rcases Nat.lt_or_ge k K with h | h
    · have h1 := hF.on k h
      simp only [h1, decide_true]
      obtain ⟨z', x', y', e⟩ := p_turn (n := n) hm (bfs_ok (r1 := r1) (r2 := r2) hm k) (hF.le hk) h1 z x y
      rw [e]
      exact p_while hm hF F (k + 1) z' x' y' (by omega) (by omega)
    · have ek : k = K := by omega
      subst ek
      have h1 : ¬ k < (bfsN m r1 r2 k).line.length := by have := hF.off; omega
      simp only [h1, decide_false]
      exact ⟨z, x, y, rfl⟩
/-- what compare returns -/
def cmpE (b : B) : PV := match b.part with
  | none => .obj 22 ["pairs"] [.lst (b.line.map pe)]
  | some c => .obj 23 ["course"] [cE c]
theorem p_check_two (h1 : r1.Ok) (h2 : r2.Ok) : run P (n + 4) 109 [m.p, r1.v, r2.v] [] = .ok .non [] := by
  have e1 := fun k => r_check_rules (n := k) (m := m) h1
  have e2 := fun k => r_check_rules (n := k) (m := m) h2
  simp only [go109]
  (fail_if_success skip)
theorem p_alike {ks vs : List PV} : run P (n + 1) 112 [.loc 0, .dct true ks vs] [.ins 22 [] []] = .ok .non [.ins 22 ["pairs"] [.lst ks]] := by
  simp only [go112]
  rfl
theorem p_alikeL {ks : List PV} : run P (n + 1) 112 [.loc 0, .lst ks] [.ins 22 [] []] = .ok .non [.ins 22 ["pairs"] [.lst ks]] := by
  simp only [go112]
  rfl
theorem p_parted : run P (n + 1) 115 [.loc 0, cE c] [.ins 23 [] []] = .ok .non [.ins 23 ["course"] [cE c]] := by
  simp only [go115]
  rfl
theorem p_partedL {l : List PV} : run P (n + 1) 115 [.loc 0, .lst l] [.ins 23 [] []] = .ok .non [.ins 23 ["course"] [.tup l]] := by
  simp only [go115]
  rfl
theorem i22 : t.tabs.init 22 = 112 := by rfl
theorem i23 : t.tabs.init 23 = 115 := by rfl
theorem locFL_cEs (l : List (List Stp)) : locFL (l.map cE) = true := locFL_map locF_cE l
theorem p_compare (hm : m.Ok) (h1 : r1.Ok) (h2 : r2.Ok) {K : Nat} (hF : Fin' m r1 r2 K) (hK : K ≤ 301) : ∃ M', run P (n + 9) 118 [m.p, r1.v, r2.v] [] = .ok (cmpE (bfsN m r1 r2 K)) M' := by
  have e1 := fun k => p_check_two (n := k) (m := m) h1 h2
  have e2 := fun k M => r_start (n := k) (m := m) (M := M)
  have kp : keyOk true (.tup [(s0 m).e, (s0 m).e]) = true := key_pe (s0 m, s0 m)
  have es : S.e ⟨.run, [], [], [], if m.hp = none then none else some .new⟩ = (s0 m).e := rfl
  obtain ⟨z', x', y', w⟩ := p_while (n := n) (r1 := r1) (r2 := r2) hm hF 100000 0 none none none (by omega) (by omega)
  have q0 : pM (bfsN m r1 r2 0) 0 = [.dct true [.tup [(s0 m).e, (s0 m).e]] [.tup []], .lst [.tup [(s0 m).e, (s0 m).e]]] := rfl
  have q1 : pρ m r1 r2 none (bfsN m r1 r2 0, none, none) = [some m.p, some r1.v, some r2.v, some (.tup [(s0 m).e, (s0 m).e]), some .non, some (.loc 0), some (.loc 1), none, none, none] := rfl
  rw [q0, q1] at w
  simp only [es] at e2
  clear q0 q1 es hF
  simp only [go118]
  (fail_if_success skip)
  simp only [ex_whil]
  rw [w]
  unfold pρ pM cmpE
  have ip := @isNV_pt
  have j22 := i22
  have j23 := i23
  have l1 := locFL_pes (bfsN m r1 r2 K).line
  have l2 := locFL_cEs (bfsN m r1 r2 K).crs
  clear w
  cases hx : (bfsN m r1 r2 K).part with
  | none =>
    refine ⟨[.dead, .lst (((bfsN m r1 r2 K).line.drop K).map pe)], ?_⟩
    (fail_if_success skip)
    simp only [p_alike]
    (fail_if_success skip)
  | some c =>
    refine ⟨dl ((bfsN m r1 r2 K).line.map pe) ((bfsN m r1 r2 K).crs.map cE) (((bfsN m r1 r2 K).line.drop K).map pe), ?_⟩
    have ep : ptE (some c) = cE c := rfl
    (fail_if_success skip)
    simp only [p_parted]
    (fail_if_success skip)
end
end Zk.K03
-- Zl4_03
namespace Zk.K03
open PySem Zk
local macro_rules | `(tactic| fail_if_success skip) => `(tactic| simp -dsimp -implicitDefEqProofs (disch := (refine id ?_; first | decide | omega | (simp only [List.length_cons, List.length_nil, List.length_append, List.length_map, mostLen, locFL, locF, locFL_ints, locF_eH, locF_eL, locF_eI, locF_e, locF_v, locF_p, locF_m, locF_stp, locFL_stp, locF_cE, locFL_pes, locF_mk, locF_mkL, locF_pe, locF_eP, Bool.and_self]; done) | (simp only [List.length_cons, List.length_nil, List.length_append, List.length_map, mostLen, locFL, locF, locFL_ints, locF_eH, locF_eL, locF_eI, locF_e, locF_v, locF_p, locF_m, locF_stp, locFL_stp, locF_cE, locFL_pes, locF_mk, locF_mkL, locF_pe, locF_eP, Bool.and_self]; omega) | (simp only [List.length_cons, List.length_nil, List.length_append, List.length_map, mostLen, locFL, locF, locFL_ints, locF_eH, locF_eL, locF_eI, locF_e, locF_v, locF_p, locF_m, locF_stp, locFL_stp, locF_cE, locFL_pes, locF_mk, locF_mkL, locF_pe, locF_eP, Bool.and_self, *]; done) | fail)) only [
  ↓ev_anil, ↓ev_acons, ↓ev_astar, ↓ev_var, ↓ev_cst, ↓ev_glb, ↓ev_tup', ↓ev_lst', ↓ev_lstM', ↓ev_dct0, ↓ev_dct1, ↓ev_bop, ↓ev_neg, ↓ev_cmp, ↓ev_chain, ↓ev_isN, ↓ev_notN, ↓ev_notT, ↓ev_notE, ↓ev_dne, ↓ev_lenO, ↓ev_and, ↓ev_or, ↓ev_ife, ↓ev_attr, ↓ev_sub, ↓ev_slc, ↓ev_rev, ↓ev_call, ↓ev_make, ↓ev_mkK, ↓ev_meth, ↓ev_blt_q, ↓ev_bm_q, ↓ev_isi, ↓ev_lc, ↓ev_dc, ↓ev_frz,
  ↓ex_nil, ↓ex_cons, ↓ex_expr, ↓ex_set, ↓ex_asg, ↓ex_par, ↓ex_setA, ↓ex_asgA, ↓ex_setI, ↓ex_ret, ↓ex_retN, ↓ex_ife, ↓ex_for, ↓ex_pass, ↓ex_cont,
  ↓look_z, ↓look_s, ↓setS_z, ↓setS_s, setMany_n, ↓setMany_c, bargs_tup, bind_ok, toS_ok, then_nx, then_rt, fin_nx, fin_rt, of_some, ofB_some_q, br_bl, optB_some, optS_some, optM_some, asgS_tup, asgAS_tup, chainV_some, bind_ite, toS_ite, then_ite, fin_ite, ok_bl_ite, ok_word_ite, fst_fold, Option.isNone_none, Option.isNone_some, Option.isSome_none, Option.isSome_some,
  thaw_tup_q, thaw_lst, thaw_str, thaw_int, thaw_non, seqV_tup, seqV_lst, len_tup, len_lst, lt_int, le_int, gt_int, ge_int, eq_int, ne_int, cmp_in, cmp_notin, eq_word, ne_word, eq_hand, eq_eI, ne_ti_nil, in_ti, bop_add, bop_sub, neg_int, not_bl, sub_tup, sub_lst, at0, at5_1, at5_2, at5_3, at5_4, at2_1, at3_1, at3_2, at_map, slc_tup, slc_lst, cut_map, part_none, part_int, isAnil_anil, isAnil_cst, isAnil_var, isAnil_neg, isAnil_bop, isNV_eL, isNV_eI, isNV_non, isNV_tup, isNV_lst, isNV_int, tupV_ok, lstV_ok, lstMV_ok, isoEnd_ok, callT, callF, bop_addT, bop_addL,
  lcTurn_eq, turnV_bl, valO_ok, setT_one, setT_many, wipeS_n, ↓wipeS_c, wip_z, wip_s, all_bl, any_bl, srt_ints, srt_intsT, tupl_lst, tupl_tup, lstF_lst, lstF_tup, lrng_int, walk_tup, walk_lst, walk_rng, walk_zipT, walk_zipL, lenEnd_int, cast_0, cast_1, cast_2, cast_3, cast_5, Bool.and_self, ↓len_t0, ↓len_t1, ↓len_t2, ↓len_t5, Nat.reduceAdd, Int.reduceLE, Int.reduceLT, Int.reduceEq, Int.reduceAdd, Int.reduceSub, Int.reduceNeg, Int.reduceMul, mm_0, mm_1, mm_2, st_ld0, st_ld1, st_ag0, st_ag1, st_w0, ne_li_nil, eq_um, lc_nil, ne_nil_nil, dl_sub1, dl_sub0, dl_in0, dl_len1, dl_len0, dl_set0, dl_app, dl_appOk, dl_popOk, dl_pop, dl_thaw, dl_frz1, dl_frz0, isNV_fw, isNV_pe, isNV_cE, dcTurn_eq, turnD_bl, valK_ok, key_pe_if, walk_dct, in_w3, in_stps, ne_ti, eq_ti, dne_mk, isNV_eP, pe_0, pe_1, asg_se, slc_se, makeF, mkEnd_ok, makeT, mkEndT_ok,
  Option.map_some, Bool.not_not, if_true, if_false, ↓reduceIte, List.append_nil, List.cons_append, List.nil_append, List.length_map, List.length_cons, List.length_nil, decide_eq_true_eq, Bool.not_true, Bool.not_false, reduceCtorEq, decide_false, decide_true, Bool.false_eq_true, List.singleton_append, map_snoc, map_app, Option.some.injEq, and_true, true_and, and_false, false_and, g_mq, a_plan, a_rules, a_phase, a_loaded, a_queue, a_emptied, a_helper, s_phase, s_loaded, s_queue, s_emptied, s_helper, s_used, s_lost, m_enqueue, m_begin, m_load, m_stop, m_end, m_taken, m_do_next, m_fail, m_empty, m_go_on, m_do, m_do_late, p_leans, p_adds, p_helper, p_len, g_ru0, g_ru1, g_ru2, g_ru3, g_ru4, g_s0, g_s1, g_s2, g_s3, g_s4, g_end, g_most, g_parts, g_i3, g_i2, g_i1, g_i0, g_iP, s_du, s_dl, s_dul, s_frzD, g_rules, g_ruI, g_ruL, m_frz, m_init14, m_init13, a_oused, a_olost, a_ophase, a_oloaded, a_oqueue, a_oemptied, a_ohelper, m_state_now, b3, b4, b5, b6, b7, b8, b10, b14, b15, b16, b18, b19, b20, b21, b22, b23, b24, b25, b26, b27, b28, b29, b30, b31, b32, b33, b34, b35, b36, b37, b38, b39, b109, b110, b111, b112, b114, b115, b117, b118, b119, b120, b349, b350, b351, b352, b353, b354, b355, b356, b357, b358, b359, b360, b361, b362, b363, b364, b365, b366, b367, b368, b369, *])

section
variable {n : Nat} {r r1 r2 : Ru} {m : Mo} {M : Store} {s : S} {st : Stp} {p : S × S} {c : List Stp} {b : B} {k : Nat} {l : List (S × S)}
def alE (l : List (S × S)) : PV := .obj 22 ["pairs"] [.lst (l.map pe)]
def paE (c : List Stp) : PV := .obj 23 ["course"] [cE c]
theorem a_pairs : attrV t.tabs "pairs" (alE l) M = some (.lst (l.map pe)) := rfl
theorem a_course : attrV t.tabs "course" (paE c) M = some (cE c) := rfl
theorem p_shows (hm : m.Ok) (h1 : r1.Ok) (h2 : r2.Ok) (hl : ∀ p ∈ l, POk m p) (hlen : l.length ≤ 900000) : run P (n + 9) 114 [alE l, m.p, r1.v, r2.v] [] = .ok (.bl (likeB m r1 r2 l)) [] := by
  have e1 := fun k => p_check_two (n := k) (m := m) h1 h2
  have e2 := fun k M => r_start (n := k) (m := m) (M := M)
  have es : S.e ⟨.run, [], [], [], if m.hp = none then none else some .new⟩ = (s0 m).e := rfl
  simp only [es] at e2
  have a1 := fun M => a_pairs (l := l) (M := M)
  have w1 := @walk_dct
  have loop := for_test (tg := .one 5) (body := exec t.tabs (run P (n + 8)) 100000 b114_0) (f := pe) (v := .bl false) (M := []) (fun ρ => ∃ a b, ρ = [some (alE l), some m.p, some r1.v, some r2.v, some (.dct true ((ded l).map pe) ((ded l).map fun _ => .bl true)), a, b]) (likeP m r1 r2 l) (xs := ded l) (fun q hq ρ hρ => by
    obtain ⟨a, b, rfl⟩ := hρ
    have hqo := hl q (mem_ded.mp hq)
    refine ⟨_, _, rfl, ⟨some (pe q), b, rfl⟩, ?_⟩
    have f1 := fun k => r_any (n := k) (p := q) hm
    have f2 := fun k st => r_both (n := k) (r1 := r1) (r2 := r2) (st := st) hm hqo
    have f3 := fun o M => in_known (l := ded l) (v := .bl true) (o := o) (M := M)
    simp only [ded_inO] at f3
    have al := any_len (p := q) hm
    unfold b114_0
    (fail_if_success skip)
    rw [lc_all (fun st => PV.bl (inO l (bothP m r1 r2 q st))) (fun x hx => by (fail_if_success skip)) (by unfold mostLen; omega)]
    (fail_if_success skip)
    rw [← show likeP m r1 r2 l q = (anyP m q).all (fun st => inO l (bothP m r1 r2 q st)) from rfl]
    cases likeP m r1 r2 l q <;> rfl)
  simp only [go114]
  unfold likeB
  (fail_if_success skip)
  rw [dc_same (v := .bl true) (fun x hx => by (fail_if_success skip)) hlen]
  obtain ⟨ρ2, ⟨a, b, rfl⟩, lp⟩ := loop [some (alE l), some m.p, some r1.v, some r2.v, some (.dct true ((ded l).map pe) ((ded l).map fun _ => .bl true)), none, none] ⟨none, none, rfl⟩
  have ik : inV (.tup [(s0 m).e, (s0 m).e]) (.dct true ((ded l).map pe) ((ded l).map fun _ => .bl true)) [] = some (l.contains (s0 m, s0 m)) := by
    have := in_knownP (l := ded l) (p := (s0 m, s0 m)) (v := .bl true) (M := [])
    rw [ded_contains] at this
    exact this
  clear loop hl
  cases hx : l.contains (s0 m, s0 m) <;> cases hy : (ded l).all (likeP m r1 r2 l) <;> ((fail_if_success skip) <;> rfl)
theorem l_are_alike (hm : m.Ok) (hl : ∀ p ∈ l, POk m p) (hlen : l.length ≤ 900000) : run P (n + 5) 365 [rig m r1 r2, .lst (l.map pe)] [] = .ok (.bl (likeB m r1 r2 l)) [] := by
  have g0 := fun M => rig_0 (m := m) (r1 := r1) (r2 := r2) (M := M)
  have lr : locF (rig m r1 r2) = true := by simp only [rig, locF, locFL, locF_m, locF_v, Bool.and_self]
  have e2 := fun k M => l_begin (n := k) (m := m) (M := M)
  have loop := for_test (tg := .one 3) (body := exec t.tabs (run P (n + 4)) 100000 b365_0) (f := pe) (v := .bl false) (M := []) (fun ρ => ∃ a b, ρ = [some (rig m r1 r2), some (.lst (l.map pe)), some (.dct true ((ded l).map pe) ((ded l).map fun _ => .int 1)), a, b]) (likeP m r1 r2 l) (xs := ded l) (fun q hq ρ hρ => by
    obtain ⟨a, b, rfl⟩ := hρ
    have hqo := hl q (mem_ded.mp hq)
    refine ⟨_, _, rfl, ⟨some (pe q), b, rfl⟩, ?_⟩
    have f1 := fun k => l_any (n := k) (r1 := r1) (r2 := r2) hm hqo
    have f2 := fun k st => l_both (n := k) (r1 := r1) (r2 := r2) (st := st) hm hqo
    have f3 := fun o M => in_known (l := ded l) (v := .int 1) (o := o) (M := M)
    simp only [ded_inO] at f3
    have al := any_len (p := q) hm
    unfold b365_0
    (fail_if_success skip)
    rw [lc_all (fun st => PV.bl (inO l (bothP m r1 r2 q st))) (fun x hx => by (fail_if_success skip)) (by unfold mostLen; omega)]
    (fail_if_success skip)
    rw [← show likeP m r1 r2 l q = (anyP m q).all (fun st => inO l (bothP m r1 r2 q st)) from rfl]
    cases likeP m r1 r2 l q <;> rfl)
  simp only [go365]
  unfold likeB
  (fail_if_success skip)
  rw [lc_all (fun p => PV.tup [pe p, .int 1]) (fun x hx => by (fail_if_success skip)) (by unfold mostLen; omega)]
  have dp := fun M => dctP_same (l := l) (v := .int 1) (M := M) hlen
  obtain ⟨ρ2, ⟨a, b, rfl⟩, lp⟩ := loop [some (rig m r1 r2), some (.lst (l.map pe)), some (.dct true ((ded l).map pe) ((ded l).map fun _ => .int 1)), none, none] ⟨none, none, rfl⟩
  have ik : inV (.tup [(s0 m).e, (s0 m).e]) (.dct true ((ded l).map pe) ((ded l).map fun _ => .int 1)) [] = some (l.contains (s0 m, s0 m)) := by
    have := in_knownP (l := ded l) (p := (s0 m, s0 m)) (v := .int 1) (M := [])
    rw [ded_contains] at this
    exact this
  clear loop hl
  cases hx : l.contains (s0 m, s0 m) <;> cases hy : (ded l).all (likeP m r1 r2 l) <;> ((fail_if_success skip) <;> rfl)
theorem p_go (hm : m.Ok) {c0 : PV} : ∀ {l : List Stp} {p : S × S} {a b : Option PV}, POk m p → ∃ x y, forLoop (.one 5) (exec t.tabs (run P (n + 8)) 100000 b117_0) (l.map Stp.e) [some c0, some m.p, some r1.v, some r2.v, some (pe p), a, b] [] = (match goP m r1 r2 p l with | none => .rt (.bl false) [] | some p' => .nx [some c0, some m.p, some r1.v, some r2.v, some (pe p'), x, y] [])
  | [], p, a, b, _ => ⟨a, b, rfl⟩
  | st :: l, p, a, b, hp => by
    have e1 := fun k => r_both (n := k) (r1 := r1) (r2 := r2) (st := st) hm hp
    rw [List.map_cons]
    unfold forLoop
    have es : setT (.one 5) st.e [some c0, some m.p, some r1.v, some r2.v, some (pe p), a, b] = some [some c0, some m.p, some r1.v, some r2.v, some (pe p), some st.e, b] := rfl
    rw [es]
    have body : exec t.tabs (run P (n + 8)) 100000 b117_0 [some c0, some m.p, some r1.v, some r2.v, some (pe p), some st.e, b] [] = (if (bothP m r1 r2 p st).isNone = true then .rt (.bl false) [] else .nx [some c0, some m.p, some r1.v, some r2.v, some (eP (bothP m r1 r2 p st)), some st.e, b] []) := by
      unfold b117_0
      (fail_if_success skip)
    simp only [body, goP]
    cases hx : bothP m r1 r2 p st with
    | none => exact ⟨none, none, rfl⟩
    | some p' => exact p_go hm (both_ok hm hp hx)
theorem l_go (hm : m.Ok) {c0 : PV} : ∀ {l : List Stp} {p : S × S} {a : Option PV}, POk m p → ∃ x, forLoop (.one 3) (exec t.tabs (run P (n + 4)) 100000 b366_0) (l.map Stp.e) [some (rig m r1 r2), some c0, some (pe p), a] [] = (match goP m r1 r2 p l with | none => .rt (.bl false) [] | some p' => .nx [some (rig m r1 r2), some c0, some (pe p'), x] [])
  | [], p, a, _ => ⟨a, rfl⟩
  | st :: l, p, a, hp => by
    have e1 := fun k => l_both (n := k) (r1 := r1) (r2 := r2) (st := st) hm hp
    have lr : locF (rig m r1 r2) = true := by simp only [rig, locF, locFL, locF_m, locF_v, Bool.and_self]
    rw [List.map_cons]
    unfold forLoop
    have es : setT (.one 3) st.e [some (rig m r1 r2), some c0, some (pe p), a] = some [some (rig m r1 r2), some c0, some (pe p), some st.e] := rfl
    rw [es]
    have body : exec t.tabs (run P (n + 4)) 100000 b366_0 [some (rig m r1 r2), some c0, some (pe p), some st.e] [] = (if (bothP m r1 r2 p st).isNone = true then .rt (.bl false) [] else .nx [some (rig m r1 r2), some c0, some (eP (bothP m r1 r2 p st)), some st.e] []) := by
      unfold b366_0
      (fail_if_success skip)
    simp only [body, goP]
    cases hx : bothP m r1 r2 p st with
    | none => exact ⟨none, rfl⟩
    | some p' => exact l_go hm (both_ok hm hp hx)
theorem go_ok (hm : m.Ok) : ∀ {l : List Stp} {p p' : S × S}, POk m p → goP m r1 r2 p l = some p' → POk m p'
  | [], p, p', h, e => by cases e; exact h
  | st :: l, p, p', h, e => by
    unfold goP at e
    cases hx : bothP m r1 r2 p st with
    | none => rw [hx] at e; cases e
    | some q => rw [hx] at e; exact go_ok hm (both_ok hm h hx) e
theorem walk_cE : walkV .val [cE c] = some (c.map Stp.e) := rfl
theorem slc_cE : slcV (cE c) none (some (-1)) M = some (cE c.dropLast) := by
  show some (PV.tup (cut (c.map Stp.e) none (some (-1)))) = _
  rw [cut_map, cut_m1]; rfl
theorem sub_cE : subV (cE c) (.int (-1)) M = c.getLast?.map Stp.e := by
  show atI (c.map Stp.e) (-1) = _
  rw [at_map, atI_m1]
theorem len_cE : bltV .len [cE c] M = .ok (.int c.length) M := by
  show R.ok (PV.int ((c.map Stp.e).length : Nat)) M = _
  rw [List.length_map]
theorem s0_pok : POk m (s0 m, s0 m) := ⟨s0_ok, s0_ok⟩
theorem any_or {x : Stp} : (anyP m p).contains x = ((stepsP m p.1).contains x || (stepsP m p.2).contains x) := by
  rw [Bool.eq_iff_iff]
  unfold anyP
  simp only [List.contains_iff_mem, List.mem_append, List.mem_filter, Bool.or_eq_true, Bool.not_eq_true']
  constructor
  · rintro (h | h)
    · exact .inl h
    · exact .inr h.1
  · rintro (h | h)
    · exact .inl h
    · by_cases z : x ∈ stepsP m p.1
      · exact .inl z
      · exact .inr ⟨h, by simpa using z⟩
theorem p_pshows (hm : m.Ok) (h1 : r1.Ok) (h2 : r2.Ok) : run P (n + 9) 117 [paE c, m.p, r1.v, r2.v] [] = .ok (.bl (partB m r1 r2 c)) [] := by
  have e1 := fun k => p_check_two (n := k) (m := m) h1 h2
  have e2 := fun k M => r_start (n := k) (m := m) (M := M)
  have es : S.e ⟨.run, [], [], [], if m.hp = none then none else some .new⟩ = (s0 m).e := rfl
  simp only [es] at e2
  have a1 := fun M => a_course (c := c) (M := M)
  have a2 := @walk_cE
  have a3 := @slc_cE
  have a4 := @sub_cE
  have a5 := @len_cE
  simp only [go117]
  unfold partB
  cases hx : c.getLast? with
  | none =>
    have hc : c = [] := by simpa using hx
    subst hc
    (fail_if_success skip)
  | some x =>
    have hc : ¬ ((c.length : Int) = 0) := by
      cases c with
      | nil => simp at hx
      | cons y d => simp only [List.length_cons]; omega
    obtain ⟨u, v, lp⟩ := p_go (n := n) (r1 := r1) (r2 := r2) (c0 := paE c) (l := c.dropLast) (a := none) (b := none) hm (s0_pok (m := m))
    rw [show pe (s0 m, s0 m) = .tup [(s0 m).e, (s0 m).e] from rfl] at lp
    cases hg : goP m r1 r2 (s0 m, s0 m) c.dropLast with
    | none =>
      rw [hg] at lp
      (fail_if_success skip)
    | some p' =>
      rw [hg] at lp
      have hp := go_ok hm s0_pok hg
      have i1 := fun k => r_is_step (n := k) (s := p'.1) (st := x) hm
      have i2 := fun k => r_is_step (n := k) (s := p'.2) (st := x) hm
      have i3 := fun k => r_both (n := k) (r1 := r1) (r2 := r2) (st := x) hm hp
      simp only [any_or]
      cases q1 : (stepsP m p'.1).contains x <;> cases q2 : (stepsP m p'.2).contains x <;> ((fail_if_success skip) <;> rfl)
theorem l_is_parted (hm : m.Ok) : run P (n + 5) 366 [rig m r1 r2, .lst (c.map Stp.e)] [] = .ok (.bl (partB m r1 r2 c)) [] := by
  have g0 := fun M => rig_0 (m := m) (r1 := r1) (r2 := r2) (M := M)
  have lr : locF (rig m r1 r2) = true := by simp only [rig, locF, locFL, locF_m, locF_v, Bool.and_self]
  have e2 := fun k M => l_begin (n := k) (m := m) (M := M)
  have a3 : ∀ M, slcV (.lst (c.map Stp.e)) none (some (-1)) M = some (.lst (c.dropLast.map Stp.e)) := fun M => by rw [slc_lst, cut_map, cut_m1]
  have a4 : ∀ M, subV (.lst (c.map Stp.e)) (.int (-1)) M = c.getLast?.map Stp.e := fun M => by rw [sub_lst, at_map, atI_m1]
  simp only [go366]
  unfold partB
  cases hx : c.getLast? with
  | none =>
    have hc : c = [] := by simpa using hx
    subst hc
    obtain ⟨u, lp⟩ := l_go (n := n) (r1 := r1) (r2 := r2) (c0 := .lst []) (l := []) (a := none) hm (s0_pok (m := m))
    have lp2 : forLoop (.one 3) (exec t.tabs (run P (n + 4)) 100000 b366_0) [] [some (rig m r1 r2), some (.lst []), some (.tup [(s0 m).e, (s0 m).e]), none] [] = .nx [some (rig m r1 r2), some (.lst []), some (.tup [(s0 m).e, (s0 m).e]), none] [] := rfl
    clear lp
    have a6 : ∀ M, slcV (.lst []) none (some (-1)) M = some (.lst []) := fun _ => rfl
    have a7 : List.map Stp.e [] = [] := rfl
    (fail_if_success skip)
  | some x =>
    have hc : ¬ ((c.length : Int) = 0) := by
      cases c with
      | nil => simp at hx
      | cons y d => simp only [List.length_cons]; omega
    obtain ⟨u, lp⟩ := l_go (n := n) (r1 := r1) (r2 := r2) (c0 := .lst (c.map Stp.e)) (l := c.dropLast) (a := none) hm (s0_pok (m := m))
    rw [show pe (s0 m, s0 m) = .tup [(s0 m).e, (s0 m).e] from rfl] at lp
    cases hg : goP m r1 r2 (s0 m, s0 m) c.dropLast with
    | none =>
      rw [hg] at lp
      (fail_if_success skip)
    | some p' =>
      rw [hg] at lp
      have hp := go_ok hm s0_pok hg
      have i2 := fun k => l_any (n := k) (r1 := r1) (r2 := r2) hm hp
      have i3 := fun k => l_both (n := k) (r1 := r1) (r2 := r2) (st := x) hm hp
      cases q1 : (anyP m p').contains x <;> ((fail_if_success skip) <;> rfl)
end
end Zk.K03
-- Zl5_03
namespace Zk.K03
open PySem Zk
local macro_rules | `(tactic| fail_if_success skip) => `(tactic| simp -dsimp -implicitDefEqProofs (disch := (refine id ?_; first | decide | omega | (simp only [List.length_cons, List.length_nil, List.length_append, List.length_map, mostLen, locFL, locF, locFL_ints, locF_eH, locF_eL, locF_eI, locF_e, locF_v, locF_p, locF_m, locF_stp, locFL_stp, locF_cE, locFL_pes, locF_mk, locF_mkL, locF_pe, locF_eP, Bool.and_self]; done) | (simp only [List.length_cons, List.length_nil, List.length_append, List.length_map, mostLen, locFL, locF, locFL_ints, locF_eH, locF_eL, locF_eI, locF_e, locF_v, locF_p, locF_m, locF_stp, locFL_stp, locF_cE, locFL_pes, locF_mk, locF_mkL, locF_pe, locF_eP, Bool.and_self]; omega) | (simp only [List.length_cons, List.length_nil, List.length_append, List.length_map, mostLen, locFL, locF, locFL_ints, locF_eH, locF_eL, locF_eI, locF_e, locF_v, locF_p, locF_m, locF_stp, locFL_stp, locF_cE, locFL_pes, locF_mk, locF_mkL, locF_pe, locF_eP, Bool.and_self, *]; done) | fail)) only [
  ↓ev_anil, ↓ev_acons, ↓ev_astar, ↓ev_var, ↓ev_cst, ↓ev_glb, ↓ev_tup', ↓ev_lst', ↓ev_lstM', ↓ev_dct0, ↓ev_dct1, ↓ev_bop, ↓ev_neg, ↓ev_cmp, ↓ev_chain, ↓ev_isN, ↓ev_notN, ↓ev_notT, ↓ev_notE, ↓ev_dne, ↓ev_lenO, ↓ev_and, ↓ev_or, ↓ev_ife, ↓ev_attr, ↓ev_sub, ↓ev_slc, ↓ev_rev, ↓ev_call, ↓ev_make, ↓ev_mkK, ↓ev_meth, ↓ev_blt_q, ↓ev_bm_q, ↓ev_isi, ↓ev_lc, ↓ev_dc, ↓ev_frz,
  ↓ex_nil, ↓ex_cons, ↓ex_expr, ↓ex_set, ↓ex_asg, ↓ex_par, ↓ex_setA, ↓ex_asgA, ↓ex_setI, ↓ex_ret, ↓ex_retN, ↓ex_ife, ↓ex_for, ↓ex_pass, ↓ex_cont,
  ↓look_z, ↓look_s, ↓setS_z, ↓setS_s, setMany_n, ↓setMany_c, bargs_tup, bind_ok, toS_ok, then_nx, then_rt, fin_nx, fin_rt, of_some, ofB_some_q, br_bl, optB_some, optS_some, optM_some, asgS_tup, asgAS_tup, chainV_some, bind_ite, toS_ite, then_ite, fin_ite, ok_bl_ite, ok_word_ite, fst_fold, Option.isNone_none, Option.isNone_some, Option.isSome_none, Option.isSome_some,
  thaw_tup_q, thaw_lst, thaw_str, thaw_int, thaw_non, seqV_tup, seqV_lst, len_tup, len_lst, lt_int, le_int, gt_int, ge_int, eq_int, ne_int, cmp_in, cmp_notin, eq_word, ne_word, eq_hand, eq_eI, ne_ti_nil, in_ti, bop_add, bop_sub, neg_int, not_bl, sub_tup, sub_lst, at0, at5_1, at5_2, at5_3, at5_4, at2_1, at3_1, at3_2, at_map, slc_tup, slc_lst, cut_map, part_none, part_int, isAnil_anil, isAnil_cst, isAnil_var, isAnil_neg, isAnil_bop, isNV_eL, isNV_eI, isNV_non, isNV_tup, isNV_lst, isNV_int, tupV_ok, lstV_ok, lstMV_ok, isoEnd_ok, callT, callF, bop_addT, bop_addL,
  lcTurn_eq, turnV_bl, valO_ok, setT_one, setT_many, wipeS_n, ↓wipeS_c, wip_z, wip_s, all_bl, any_bl, srt_ints, srt_intsT, tupl_lst, tupl_tup, lstF_lst, lstF_tup, lrng_int, walk_tup, walk_lst, walk_rng, walk_zipT, walk_zipL, lenEnd_int, cast_0, cast_1, cast_2, cast_3, cast_5, Bool.and_self, ↓len_t0, ↓len_t1, ↓len_t2, ↓len_t5, Nat.reduceAdd, Int.reduceLE, Int.reduceLT, Int.reduceEq, Int.reduceAdd, Int.reduceSub, Int.reduceNeg, Int.reduceMul, mm_0, mm_1, mm_2, st_ld0, st_ld1, st_ag0, st_ag1, st_w0, ne_li_nil, eq_um, lc_nil, ne_nil_nil, dl_sub1, dl_sub0, dl_in0, dl_len1, dl_len0, dl_set0, dl_app, dl_appOk, dl_popOk, dl_pop, dl_thaw, dl_frz1, dl_frz0, isNV_fw, isNV_pe, isNV_cE, dcTurn_eq, turnD_bl, valK_ok, key_pe_if, walk_dct, in_w3, in_stps, ne_ti, eq_ti, dne_mk, isNV_eP, pe_0, pe_1, asg_se, slc_se, makeF, mkEnd_ok, makeT, mkEndT_ok,
  mul_r, mul_l, bop_mod, bop_div, bop_pow18, intI_int, dr_0, dr_1, dr_2, dr_set, Option.map_some, Bool.not_not, if_true, if_false, ↓reduceIte, List.append_nil, List.cons_append, List.nil_append, List.length_map, List.length_cons, List.length_nil, decide_eq_true_eq, Bool.not_true, Bool.not_false, reduceCtorEq, decide_false, decide_true, Bool.false_eq_true, List.singleton_append, map_snoc, map_app, Option.some.injEq, and_true, true_and, and_false, false_and, g_mq, a_plan, a_rules, a_phase, a_loaded, a_queue, a_emptied, a_helper, s_phase, s_loaded, s_queue, s_emptied, s_helper, s_used, s_lost, m_enqueue, m_begin, m_load, m_stop, m_end, m_taken, m_do_next, m_fail, m_empty, m_go_on, m_do, m_do_late, p_leans, p_adds, p_helper, p_len, g_ru0, g_ru1, g_ru2, g_ru3, g_ru4, g_s0, g_s1, g_s2, g_s3, g_s4, g_end, g_most, g_parts, g_i3, g_i2, g_i1, g_i0, g_iP, s_du, s_dl, s_dul, s_frzD, g_rules, g_ruI, g_ruL, m_frz, m_init14, m_init13, a_oused, a_olost, a_ophase, a_oloaded, a_oqueue, a_oemptied, a_ohelper, m_state_now, b3, b4, b5, b6, b7, b8, b10, b14, b15, b16, b18, b19, b20, b21, b22, b23, b24, b25, b26, b27, b28, b29, b30, b31, b32, b33, b34, b35, b36, b37, b38, b39, b109, b110, b111, b112, b114, b115, b117, b118, b119, b120, b349, b350, b351, b352, b353, b354, b355, b356, b357, b358, b359, b360, b361, b362, b363, b364, b365, b366, b367, b368, b369, *])

section
variable {n : Nat} {M R : Store} {sc : List Int} {k i cell b : Int}
theorem d_cell (h : 0 ≤ i) : ∃ c, run P (n + 1) 349 [.lst (sc.map PV.int), .int i] M = .ok (.int c) M := by
  simp only [go349]
  by_cases h1 : i < sc.length
  · obtain ⟨x, hx⟩ := atI_of (l := sc) h h1
    refine ⟨x, ?_⟩
    (fail_if_success skip)
  · refine ⟨0, ?_⟩
    (fail_if_success skip)
theorem d_draw (h0 : 0 ≤ i) (hb : 0 < b) : ∃ v, 0 ≤ v ∧ v < b ∧ run P (n + 1) 350 [.int cell, .int i, .int b] M = .ok (.int v) M := by
  obtain ⟨q, hq0, hq⟩ := primes_at (i := i % 16) (by omega) (by omega)
  refine ⟨(cell * 48271 + i * 69621) % q % b, Int.emod_nonneg _ (by omega), Int.emod_lt_of_pos _ hb, ?_⟩
  have e : atI [PV.int 1000003, .int 1000033, .int 1000037, .int 1000039, .int 1000081, .int 1000099, .int 1000117, .int 1000121, .int 1000133, .int 1000151, .int 1000159, .int 1000171, .int 1000183, .int 1000187, .int 1000193, .int 1000199] (i % 16) = some (.int q) := by
    have := at_map (f := PV.int) (l := primes) (i := i % 16)
    rw [hq] at this
    exact this
  simp only [go350]
  (fail_if_success skip)
theorem d_loop {ρ0 ρ1 ρ2 : Option PV} {y z w : Option PV} : ∀ (j : Nat) {p : Int} {x : Option PV} {l : List Int}, l.length = j → ∃ x', forLoop (.one 4) (exec t.tabs (run P n) 100000 b351_0) (l.map PV.int) [ρ0, ρ1, ρ2, some (.int p), x, y, z, w] M = .nx [ρ0, ρ1, ρ2, some (.int (p * 1009 ^ j)), x', y, z, w] M
  | 0, p, x, l, h => by
    have : l = [] := by simpa using h
    subst this
    exact ⟨x, by simp [forLoop]⟩
  | j + 1, p, x, l, h => by
    cases l with
    | nil => simp at h
    | cons a l =>
      obtain ⟨x', e⟩ := d_loop j (p := p * 1009) (x := some (.int a)) (l := l) (by simpa using h)
      refine ⟨x', ?_⟩
      rw [List.map_cons]
      unfold forLoop
      have es : setT (.one 4) (.int a) [ρ0, ρ1, ρ2, some (.int p), x, y, z, w] = some [ρ0, ρ1, ρ2, some (.int p), some (.int a), y, z, w] := rfl
      have eb : exec t.tabs (run P n) 100000 b351_0 [ρ0, ρ1, ρ2, some (.int p), some (.int a), y, z, w] M = .nx [ρ0, ρ1, ρ2, some (.int (p * 1009)), some (.int a), y, z, w] M := by
        unfold b351_0
        (fail_if_success skip)
      rw [es]
      simp only [eb]
      rw [e]
      rw [Int.pow_succ, Int.mul_comm (1009 ^ j) 1009, Int.mul_assoc]
theorem d_number {i : Nat} (h0 : 1 ≤ i) (h1 : i ≤ 12) (hb : 0 < b) : ∃ v, 0 ≤ v ∧ v < b ∧ run P (n + 2) 351 [.int cell, .int i, .int b] M = .ok (.int v) M := by
  have e24 : (i : Int) % 24 = i := by omega
  obtain ⟨p1, p2⟩ := pow_log i h1
  obtain ⟨x', lp⟩ := d_loop (n := n + 1) (M := M) (ρ0 := some (.int cell)) (ρ1 := some (.int i)) (ρ2 := some (.int b)) (y := none) (z := none) (w := none) i (p := 1) (x := none) (l := rng i) rng_len
  rw [Int.one_mul] at lp
  have hp : (decide (0 < (1009 : Int) ^ i) && decide (((1009 : Int) ^ i).natAbs.log2 < 9000)) = true := by rw [decide_eq_true p2, decide_eq_true p1]; rfl
  have hw : i ≤ 1000000 := by omega
  simp only [go351]
  by_cases hr : 0 < (cell - 1000000000000000000) / (1009 : Int) ^ i
  · refine ⟨(cell - 1000000000000000000) / (1009 : Int) ^ i % 1009 % b, Int.emod_nonneg _ (by omega), Int.emod_lt_of_pos _ hb, ?_⟩
    (fail_if_success skip)
  · have q0 := Int.emod_nonneg cell (b := 1000003) (by omega)
    have q1 := Int.emod_lt_of_pos cell (b := 1000003) (by omega)
    obtain ⟨v, v0, v1, ev⟩ := d_draw (n := n) (M := []) (cell := (cell % 1000003 + 977 * i) * (cell % 1000003 + 31 * i + 5)) (i := (i : Int) % 9 + 1) (b := 999983) (by omega) (by omega)
    refine ⟨v % b, Int.emod_nonneg _ (by omega), Int.emod_lt_of_pos _ hb, ?_⟩
    have hs : small (cell % 1000003 + 977 * i) = true := small_of (by omega) (by omega)
    (fail_if_success skip)
theorem d_next (hk : 0 ≤ k) (hb : 0 < b) : ∃ v, 0 ≤ v ∧ v < b ∧ run P (n + 3) 352 [.loc 0, .int b] (dr sc k :: R) = .ok (.int v) (dr sc (k + 1) :: R) := by
  obtain ⟨c, hc⟩ := d_cell (n := n + 1) (M := []) (sc := sc) (i := 0 + (k + 1) / 12) (by omega)
  obtain ⟨v, v0, v1, hv⟩ := d_number (n := n) (M := []) (cell := c + 31 * ((k + 1) / 12)) (i := ((k + 1) % 12 + 1).toNat) (b := b) (by omega) (by omega) hb
  have e : (((k + 1) % 12 + 1).toNat : Int) = (k + 1) % 12 + 1 := by omega
  rw [e] at hv
  refine ⟨v, v0, v1, ?_⟩
  simp only [go352]
  (fail_if_success skip)
theorem d_pick {xs : List PV} (hk : 0 ≤ k) (hx : xs ≠ []) (hl : locFL xs = true) : ∃ x, x ∈ xs ∧ run P (n + 4) 353 [.loc 0, .lst xs] (dr sc k :: R) = .ok x (dr sc (k + 1) :: R) := by
  have hp : (0 : Int) < xs.length := by
    have := List.length_pos_iff.mpr hx
    omega
  obtain ⟨v, v0, v1, hv⟩ := d_next (n := n) (sc := sc) (R := R) hk hp
  obtain ⟨x, ex⟩ := atI_of (l := xs) v0 v1
  refine ⟨x, ?_, ?_⟩
  · unfold atI at ex
    cases z : ixN xs.length v with
    | none => rw [z] at ex; cases ex
    | some j => rw [z] at ex; exact List.mem_of_getElem? ex
  · simp only [go353]
    (fail_if_success skip)
end
end Zk.K03
-- Zl6_03
namespace Zk.K03
open PySem Zk
local macro_rules | `(tactic| fail_if_success skip) => `(tactic| simp -dsimp -implicitDefEqProofs (disch := (refine id ?_; first | decide | omega | (simp only [List.length_cons, List.length_nil, List.length_append, List.length_map, mostLen, locFL, locF, locFL_ints, locF_eH, locF_eL, locF_eI, locF_e, locF_v, locF_p, locF_m, locF_stp, locFL_stp, locF_cE, locFL_pes, locF_mk, locF_mkL, locF_pe, locF_eP, Bool.and_self]; done) | (simp only [List.length_cons, List.length_nil, List.length_append, List.length_map, mostLen, locFL, locF, locFL_ints, locF_eH, locF_eL, locF_eI, locF_e, locF_v, locF_p, locF_m, locF_stp, locFL_stp, locF_cE, locFL_pes, locF_mk, locF_mkL, locF_pe, locF_eP, Bool.and_self]; omega) | (simp only [List.length_cons, List.length_nil, List.length_append, List.length_map, mostLen, locFL, locF, locFL_ints, locF_eH, locF_eL, locF_eI, locF_e, locF_v, locF_p, locF_m, locF_stp, locFL_stp, locF_cE, locFL_pes, locF_mk, locF_mkL, locF_pe, locF_eP, Bool.and_self, *]; done) | fail)) only [
  ↓ev_anil, ↓ev_acons, ↓ev_astar, ↓ev_var, ↓ev_cst, ↓ev_glb, ↓ev_tup', ↓ev_lst', ↓ev_lstM', ↓ev_dct0, ↓ev_dct1, ↓ev_bop, ↓ev_neg, ↓ev_cmp, ↓ev_chain, ↓ev_isN, ↓ev_notN, ↓ev_notT, ↓ev_notE, ↓ev_dne, ↓ev_lenO, ↓ev_and, ↓ev_or, ↓ev_ife, ↓ev_attr, ↓ev_sub, ↓ev_slc, ↓ev_rev, ↓ev_call, ↓ev_make, ↓ev_mkK, ↓ev_meth, ↓ev_blt_q, ↓ev_bm_q, ↓ev_isi, ↓ev_lc, ↓ev_dc, ↓ev_frz,
  ↓ex_nil, ↓ex_cons, ↓ex_expr, ↓ex_set, ↓ex_asg, ↓ex_par, ↓ex_setA, ↓ex_asgA, ↓ex_setI, ↓ex_ret, ↓ex_retN, ↓ex_ife, ↓ex_for, ↓ex_pass, ↓ex_cont,
  ↓look_z, ↓look_s, ↓setS_z, ↓setS_s, setMany_n, ↓setMany_c, bargs_tup, bind_ok, toS_ok, then_nx, then_rt, fin_nx, fin_rt, of_some, ofB_some_q, br_bl, optB_some, optS_some, optM_some, asgS_tup, asgAS_tup, chainV_some, bind_ite, toS_ite, then_ite, fin_ite, ok_bl_ite, ok_word_ite, fst_fold, Option.isNone_none, Option.isNone_some, Option.isSome_none, Option.isSome_some,
  thaw_tup_q, thaw_lst, thaw_str, thaw_int, thaw_non, seqV_tup, seqV_lst, len_tup, len_lst, lt_int, le_int, gt_int, ge_int, eq_int, ne_int, cmp_in, cmp_notin, eq_word, ne_word, eq_hand, eq_eI, ne_ti_nil, in_ti, bop_add, bop_sub, neg_int, not_bl, sub_tup, sub_lst, at0, at5_1, at5_2, at5_3, at5_4, at2_1, at3_1, at3_2, at_map, slc_tup, slc_lst, cut_map, part_none, part_int, isAnil_anil, isAnil_cst, isAnil_var, isAnil_neg, isAnil_bop, isNV_eL, isNV_eI, isNV_non, isNV_tup, isNV_lst, isNV_int, tupV_ok, lstV_ok, lstMV_ok, isoEnd_ok, callT, callF, bop_addT, bop_addL,
  lcTurn_eq, turnV_bl, valO_ok, setT_one, setT_many, wipeS_n, ↓wipeS_c, wip_z, wip_s, all_bl, any_bl, srt_ints, srt_intsT, tupl_lst, tupl_tup, lstF_lst, lstF_tup, lrng_int, walk_tup, walk_lst, walk_rng, walk_zipT, walk_zipL, lenEnd_int, cast_0, cast_1, cast_2, cast_3, cast_5, Bool.and_self, ↓len_t0, ↓len_t1, ↓len_t2, ↓len_t5, Nat.reduceAdd, Int.reduceLE, Int.reduceLT, Int.reduceEq, Int.reduceAdd, Int.reduceSub, Int.reduceNeg, Int.reduceMul, mm_0, mm_1, mm_2, st_ld0, st_ld1, st_ag0, st_ag1, st_w0, ne_li_nil, eq_um, lc_nil, ne_nil_nil, dl_sub1, dl_sub0, dl_in0, dl_len1, dl_len0, dl_set0, dl_app, dl_appOk, dl_popOk, dl_pop, dl_thaw, dl_frz1, dl_frz0, isNV_fw, isNV_pe, isNV_cE, dcTurn_eq, turnD_bl, valK_ok, key_pe_if, walk_dct, in_w3, in_stps, ne_ti, eq_ti, dne_mk, isNV_eP, pe_0, pe_1, asg_se, slc_se, makeF, mkEnd_ok, makeT, mkEndT_ok,
  mul_r, mul_l, bop_mod, bop_div, bop_pow18, intI_int, dr_0, dr_1, dr_2, dr_set, Option.map_some, Bool.not_not, if_true, if_false, ↓reduceIte, List.append_nil, List.cons_append, List.nil_append, List.length_map, List.length_cons, List.length_nil, decide_eq_true_eq, Bool.not_true, Bool.not_false, reduceCtorEq, decide_false, decide_true, Bool.false_eq_true, List.singleton_append, map_snoc, map_app, Option.some.injEq, and_true, true_and, and_false, false_and, g_mq, a_plan, a_rules, a_phase, a_loaded, a_queue, a_emptied, a_helper, s_phase, s_loaded, s_queue, s_emptied, s_helper, s_used, s_lost, m_enqueue, m_begin, m_load, m_stop, m_end, m_taken, m_do_next, m_fail, m_empty, m_go_on, m_do, m_do_late, p_leans, p_adds, p_helper, p_len, g_ru0, g_ru1, g_ru2, g_ru3, g_ru4, g_s0, g_s1, g_s2, g_s3, g_s4, g_end, g_most, g_parts, g_i3, g_i2, g_i1, g_i0, g_iP, s_du, s_dl, s_dul, s_frzD, g_rules, g_ruI, g_ruL, m_frz, m_init14, m_init13, a_oused, a_olost, a_ophase, a_oloaded, a_oqueue, a_oemptied, a_ohelper, m_state_now, b3, b4, b5, b6, b7, b8, b10, b14, b15, b16, b18, b19, b20, b21, b22, b23, b24, b25, b26, b27, b28, b29, b30, b31, b32, b33, b34, b35, b36, b37, b38, b39, b109, b110, b111, b112, b114, b115, b117, b118, b119, b120, b349, b350, b351, b352, b353, b354, b355, b356, b357, b358, b359, b360, b361, b362, b363, b364, b365, b366, b367, b368, b369, *])

section
variable {n : Nat} {M R : Store} {sc : List Int} {k i cell b : Int}
theorem mem2 {a b : Wo} {x : PV} (h : x ∈ [PV.str a.s, .str b.s]) : ∃ w : Wo, (w = a ∨ w = b) ∧ x = .str w.s := by
  simp only [List.mem_cons, List.not_mem_nil, or_false] at h
  rcases h with rfl | rfl
  · exact ⟨a, .inl rfl, rfl⟩
  · exact ⟨b, .inr rfl, rfl⟩
theorem mem3 {a b c : Wo} {x : PV} (h : x ∈ [PV.str a.s, .str b.s, .str c.s]) : ∃ w : Wo, (w = a ∨ w = b ∨ w = c) ∧ x = .str w.s := by
  simp only [List.mem_cons, List.not_mem_nil, or_false] at h
  rcases h with rfl | rfl | rfl
  · exact ⟨a, .inl rfl, rfl⟩
  · exact ⟨b, .inr (.inl rfl), rfl⟩
  · exact ⟨c, .inr (.inr rfl), rfl⟩
theorem d_words (hk : 0 ≤ k) : ∃ (r : Ru) (k' : Int), r.Ok ∧ 0 ≤ k' ∧ run P (n + 5) 356 [.loc 0] (dr sc k :: R) = .ok r.v (dr sc k' :: R) := by
  obtain ⟨x1, m1, e1⟩ := d_pick (n := n) (sc := sc) (R := R) (k := k) (xs := [PV.str Wo.last.s, .str Wo.first.s]) hk (by simp) rfl
  obtain ⟨x2, m2, e2⟩ := d_pick (n := n) (sc := sc) (R := R) (k := k + 1) (xs := [PV.str Wo.after.s, .str Wo.before.s]) (by omega) (by simp) rfl
  obtain ⟨x3, m3, e3⟩ := d_pick (n := n) (sc := sc) (R := R) (k := k + 1 + 1) (xs := [PV.str Wo.back.s, .str Wo.along.s]) (by omega) (by simp) rfl
  obtain ⟨x4, m4, e4⟩ := d_pick (n := n) (sc := sc) (R := R) (k := k + 1 + 1 + 1) (xs := [PV.str Wo.wait.s, .str Wo.cut.s, .str Wo.free.s]) (by omega) (by simp) rfl
  obtain ⟨x5, m5, e5⟩ := d_pick (n := n) (sc := sc) (R := R) (k := k + 1 + 1 + 1 + 1) (xs := [PV.str Wo.onward.s, .str Wo.drop.s]) (by omega) (by simp) rfl
  obtain ⟨w1, h1, rfl⟩ := mem2 m1
  obtain ⟨w2, h2, rfl⟩ := mem2 m2
  obtain ⟨w3, h3, rfl⟩ := mem2 m3
  obtain ⟨w4, h4, rfl⟩ := mem3 m4
  obtain ⟨w5, h5, rfl⟩ := mem2 m5
  refine ⟨⟨w1, w2, w3, w4, w5⟩, k + 1 + 1 + 1 + 1 + 1, ⟨h1, h2, h3, h4, h5⟩, by omega, ?_⟩
  clear m1 m2 m3 m4 m5 h1 h2 h3 h4 h5
  simp only [go356]
  (fail_if_success skip)
  rfl
theorem d_near {r : Ru} (hk : 0 ≤ k) (hr : r.Ok) : ∃ (r' : Ru) (k' : Int) (R' : Store), r'.Ok ∧ 0 ≤ k' ∧ run P (n + 6) 367 [.loc 0, r.v] (dr sc k :: R) = .ok r'.v (dr sc k' :: R') := by
  obtain ⟨v, v0, v1, e1⟩ := d_next (n := n + 2) (sc := sc) (R := R) (b := 6) hk (by omega)
  have er : ∀ M, bltV .lstM [r.v] M = .ok (.loc M.length) (M ++ [.lst [.str r.o.s, .str r.n.s, .str r.c.s, .str r.h.s, .str r.e.s]]) := fun _ => rfl
  obtain ⟨q, k', hq, hk', e2⟩ := d_words (n := n) (sc := sc) (R := R ++ [.lst [.str r.o.s, .str r.n.s, .str r.c.s, .str r.h.s, .str r.e.s]]) (k := k + 1) (by omega)
  have g1 : ∀ (j : Nat) (x : PV), j < 5 → setIV (.loc (R.length + 1)) (.int j) x (dr sc k' :: (R ++ [.lst [.str r.o.s, .str r.n.s, .str r.c.s, .str r.h.s, .str r.e.s]])) = some (dr sc k' :: (R ++ [.lst ([PV.str r.o.s, .str r.n.s, .str r.c.s, .str r.h.s, .str r.e.s].set j x)])) := fun j x hj => by
    have h1 : (dr sc k' :: (R ++ [MO.lst [.str r.o.s, .str r.n.s, .str r.c.s, .str r.h.s, .str r.e.s]]))[R.length + 1]? = some (MO.lst [.str r.o.s, .str r.n.s, .str r.c.s, .str r.h.s, .str r.e.s]) := by simp
    have h2 : ixN 5 (j : Int) = some j := by unfold ixN; rw [if_pos (by omega), if_pos (by omega)]; simp
    simp only [setIV, h1, List.length_cons, List.length_nil, Nat.reduceAdd, h2]
    congr 1
    simp
  have g2 : ∀ xs : List PV, bltV .tupl [.loc (R.length + 1)] (dr sc k' :: (R ++ [.lst xs])) = .ok (.tup xs) (dr sc k' :: (R ++ [.lst xs])) := fun xs => by
    have h1 : (dr sc k' :: (R ++ [MO.lst xs]))[R.length + 1]? = some (MO.lst xs) := by simp
    simp only [bltV, thaw, h1]
  by_cases h5 : v = 5
  · subst h5
    refine ⟨q, k', R ++ [.lst [.str r.o.s, .str r.n.s, .str r.c.s, .str r.h.s, .str r.e.s]], hq, hk', ?_⟩
    simp only [go367]
    (fail_if_success skip)
  · have hv : v = 0 ∨ v = 1 ∨ v = 2 ∨ v = 3 ∨ v = 4 := by omega
    rcases hv with rfl | rfl | rfl | rfl | rfl
    · have z : ∀ x, setIV (.loc (R.length + 1)) (.int 0) x (dr sc k' :: (R ++ [.lst [.str r.o.s, .str r.n.s, .str r.c.s, .str r.h.s, .str r.e.s]])) = some (dr sc k' :: (R ++ [.lst [x, .str r.n.s, .str r.c.s, .str r.h.s, .str r.e.s]])) := fun x => g1 0 x (by omega)
      clear g1
      refine ⟨{ r with o := q.o }, k', R ++ [.lst [.str q.o.s, .str r.n.s, .str r.c.s, .str r.h.s, .str r.e.s]], ⟨hq.o, hr.n, hr.c, hr.h, hr.e⟩, hk', ?_⟩
      simp only [go367]
      (fail_if_success skip)
      rfl
    · have z : ∀ x, setIV (.loc (R.length + 1)) (.int 1) x (dr sc k' :: (R ++ [.lst [.str r.o.s, .str r.n.s, .str r.c.s, .str r.h.s, .str r.e.s]])) = some (dr sc k' :: (R ++ [.lst [.str r.o.s, x, .str r.c.s, .str r.h.s, .str r.e.s]])) := fun x => g1 1 x (by omega)
      clear g1
      refine ⟨{ r with n := q.n }, k', R ++ [.lst [.str r.o.s, .str q.n.s, .str r.c.s, .str r.h.s, .str r.e.s]], ⟨hr.o, hq.n, hr.c, hr.h, hr.e⟩, hk', ?_⟩
      simp only [go367]
      (fail_if_success skip)
      rfl
    · have z : ∀ x, setIV (.loc (R.length + 1)) (.int 2) x (dr sc k' :: (R ++ [.lst [.str r.o.s, .str r.n.s, .str r.c.s, .str r.h.s, .str r.e.s]])) = some (dr sc k' :: (R ++ [.lst [.str r.o.s, .str r.n.s, x, .str r.h.s, .str r.e.s]])) := fun x => g1 2 x (by omega)
      clear g1
      refine ⟨{ r with c := q.c }, k', R ++ [.lst [.str r.o.s, .str r.n.s, .str q.c.s, .str r.h.s, .str r.e.s]], ⟨hr.o, hr.n, hq.c, hr.h, hr.e⟩, hk', ?_⟩
      simp only [go367]
      (fail_if_success skip)
      rfl
    · have z : ∀ x, setIV (.loc (R.length + 1)) (.int 3) x (dr sc k' :: (R ++ [.lst [.str r.o.s, .str r.n.s, .str r.c.s, .str r.h.s, .str r.e.s]])) = some (dr sc k' :: (R ++ [.lst [.str r.o.s, .str r.n.s, .str r.c.s, x, .str r.e.s]])) := fun x => g1 3 x (by omega)
      clear g1
      refine ⟨{ r with h := q.h }, k', R ++ [.lst [.str r.o.s, .str r.n.s, .str r.c.s, .str q.h.s, .str r.e.s]], ⟨hr.o, hr.n, hr.c, hq.h, hr.e⟩, hk', ?_⟩
      simp only [go367]
      (fail_if_success skip)
      rfl
    · have z : ∀ x, setIV (.loc (R.length + 1)) (.int 4) x (dr sc k' :: (R ++ [.lst [.str r.o.s, .str r.n.s, .str r.c.s, .str r.h.s, .str r.e.s]])) = some (dr sc k' :: (R ++ [.lst [.str r.o.s, .str r.n.s, .str r.c.s, .str r.h.s, x]])) := fun x => g1 4 x (by omega)
      clear g1
      refine ⟨{ r with e := q.e }, k', R ++ [.lst [.str r.o.s, .str r.n.s, .str r.c.s, .str r.h.s, .str q.e.s]], ⟨hr.o, hr.n, hr.c, hr.h, hq.e⟩, hk', ?_⟩
      simp only [go367]
      (fail_if_success skip)
      rfl
theorem d_some {ρ1 ρ2 ρ3 ρ4 ρ5 ρ6 ρ7 ρ8 ρ9 : Option PV} : ∀ {xs : List Int} {k : Int} {acc : List PV}, 0 ≤ k → acc.length + xs.length ≤ 900000 → ∃ (l : List Int) (k' : Int), l.Sublist xs ∧ 0 ≤ k' ∧ lcLoop (lcTurn (.one 9) [9] [some (.loc 0), ρ1, ρ2, ρ3, ρ4, ρ5, ρ6, ρ7, ρ8, ρ9] (ev t.tabs (run P (n + 3)) (.cmp .eq (.call 352 false (.acons (.var 0) (.acons (.cst (.int 3)) .anil))) (.cst (.int 0)))) (ev t.tabs (run P (n + 3)) (.var 9))) (xs.map PV.int) acc (dr sc k :: R) = some (acc ++ l.map PV.int, dr sc k' :: R)
  | [], k, acc, hk, _ => ⟨[], k, .slnil, hk, by simp [lcLoop]⟩
  | x :: xs, k, acc, hk, hl => by
    obtain ⟨v, v0, v1, e1⟩ := d_next (n := n) (sc := sc) (R := R) (b := 3) hk (by omega)
    simp only [List.length_cons] at hl
    by_cases h0 : v = 0
    · obtain ⟨l, k', h1, h2, h3⟩ := d_some (xs := xs) (k := k + 1) (acc := acc ++ [.int x]) (by omega) (by simp; omega)
      refine ⟨x :: l, k', h1.cons_cons x, h2, ?_⟩
      have turn : lcTurn (.one 9) [9] [some (.loc 0), ρ1, ρ2, ρ3, ρ4, ρ5, ρ6, ρ7, ρ8, ρ9] (ev t.tabs (run P (n + 3)) (.cmp .eq (.call 352 false (.acons (.var 0) (.acons (.cst (.int 3)) .anil))) (.cst (.int 0)))) (ev t.tabs (run P (n + 3)) (.var 9)) (.int x) (dr sc k :: R) = some (some (.int x), dr sc (k + 1) :: R) := by
        subst h0
        clear h1 h2 h3
        (fail_if_success skip)
      rw [List.map_cons]
      unfold lcLoop
      rw [turn]
      simp only
      rw [if_pos (by unfold mostLen; omega), h3]
      simp
    · obtain ⟨l, k', h1, h2, h3⟩ := d_some (xs := xs) (k := k + 1) (acc := acc) (by omega) (by omega)
      refine ⟨l, k', h1.cons x, h2, ?_⟩
      have turn : lcTurn (.one 9) [9] [some (.loc 0), ρ1, ρ2, ρ3, ρ4, ρ5, ρ6, ρ7, ρ8, ρ9] (ev t.tabs (run P (n + 3)) (.cmp .eq (.call 352 false (.acons (.var 0) (.acons (.cst (.int 3)) .anil))) (.cst (.int 0)))) (ev t.tabs (run P (n + 3)) (.var 9)) (.int x) (dr sc k :: R) = some (none, dr sc (k + 1) :: R) := by
        clear h1 h2 h3
        (fail_if_success skip)
      rw [List.map_cons]
      unfold lcLoop
      rw [turn]
      exact h3
/-- the store with one more list, with two more -/
def st1 (sc : List Int) (k : Int) (R : Store) (xs : List PV) : Store := dr sc k :: (R ++ [.lst xs])
def st2 (sc : List Int) (k : Int) (R : Store) (xs ys : List PV) : Store := dr sc k :: ((R ++ [.lst xs]) ++ [.lst ys])
section
variable {xs ys : List PV} {v : PV}
theorem st1_get : (st1 sc k R xs)[R.length + 1]? = some (MO.lst xs) := by simp [st1]
theorem st2_get1 : (st2 sc k R xs ys)[R.length + 1]? = some (MO.lst xs) := by simp [st2]
theorem st2_get2 : (st2 sc k R xs ys)[R.length + 1 + 1]? = some (MO.lst ys) := by simp [st2]
theorem st1_app (h : xs.length < 1000000) : bmV .append (.loc (R.length + 1)) [v] (st1 sc k R xs) = .ok .non (st1 sc k R (xs ++ [v])) := by
  have h1 := st1_get (sc := sc) (k := k) (R := R) (xs := xs)
  simp only [bmV, h1]
  rw [if_pos (by unfold mostLen; exact h)]
  simp [st1]
theorem st1_ok : bmOk .append (.loc (R.length + 1)) (st1 sc k R xs) = true := by
  have h1 := st1_get (sc := sc) (k := k) (R := R) (xs := xs)
  simp only [bmOk, thaw, h1]
theorem st1_sub : subV (.loc (R.length + 1)) (.int i) (st1 sc k R xs) = atI xs i := by
  have h1 := st1_get (sc := sc) (k := k) (R := R) (xs := xs)
  simp only [subV, h1]
theorem st2_sub : subV (.loc (R.length + 1)) (.int i) (st2 sc k R xs ys) = atI xs i := by
  have h1 := st2_get1 (sc := sc) (k := k) (R := R) (xs := xs) (ys := ys)
  simp only [subV, h1]
theorem st2_app (h : ys.length < 1000000) : bmV .append (.loc (R.length + 1 + 1)) [v] (st2 sc k R xs ys) = .ok .non (st2 sc k R xs (ys ++ [v])) := by
  have h1 := st2_get2 (sc := sc) (k := k) (R := R) (xs := xs) (ys := ys)
  simp only [bmV, h1]
  rw [if_pos (by unfold mostLen; exact h)]
  simp [st2]
theorem st2_ok : bmOk .append (.loc (R.length + 1 + 1)) (st2 sc k R xs ys) = true := by
  have h1 := st2_get2 (sc := sc) (k := k) (R := R) (xs := xs) (ys := ys)
  simp only [bmOk, thaw, h1]
theorem st2_tup1 : bltV .tupl [.loc (R.length + 1)] (st2 sc k R xs ys) = .ok (.tup xs) (st2 sc k R xs ys) := by
  have h1 := st2_get1 (sc := sc) (k := k) (R := R) (xs := xs) (ys := ys)
  simp only [bltV, thaw, h1]
theorem st2_tup2 : bltV .tupl [.loc (R.length + 1 + 1)] (st2 sc k R xs ys) = .ok (.tup ys) (st2 sc k R xs ys) := by
  have h1 := st2_get2 (sc := sc) (k := k) (R := R) (xs := xs) (ys := ys)
  simp only [bltV, thaw, h1]
end
/-- rows that may be drawn -/
def RowOk (many : Nat) (o : Option (List Int)) : Prop := ∀ l, o = some l → l.Sublist (rng many)
theorem d_rows {ρ1 ρ6 ρ7 ρ8 ρ9 : Option PV} {many : Nat} (hm : many ≤ 3) : ∀ {xs : List Int} {k : Int} {rows : List (Option (List Int))} {ρ4 ρ5 : Option PV}, 0 ≤ k → (∀ o ∈ rows, RowOk many o) → rows.length + xs.length ≤ 900000 → ∃ (rows' : List (Option (List Int))) (k' : Int) (a b : Option PV), rows'.length = rows.length + xs.length ∧ (∀ o ∈ rows', RowOk many o) ∧ 0 ≤ k' ∧
    forLoop (.one 4) (exec t.tabs (run P (n + 3)) 100000 b354_1) (xs.map PV.int) [some (.loc 0), ρ1, some (.int many), some (.loc (R.length + 1)), ρ4, ρ5, ρ6, ρ7, ρ8, ρ9] (st1 sc k R (rows.map eL)) = .nx [some (.loc 0), ρ1, some (.int many), some (.loc (R.length + 1)), a, b, ρ6, ρ7, ρ8, ρ9] (st1 sc k' R (rows'.map eL))
  | [], k, rows, ρ4, ρ5, hk, hr, _ => ⟨rows, k, ρ4, ρ5, by simp, hr, hk, rfl⟩
  | x :: xs, k, rows, ρ4, ρ5, hk, hr, hl => by
    simp only [List.length_cons] at hl
    have hw : many ≤ 1000000 := by omega
    obtain ⟨l, k1, s1, s2, e1⟩ := d_some (n := n) (sc := sc) (R := R ++ [.lst (rows.map eL)]) (xs := rng many) (k := k) (acc := []) (ρ1 := ρ1) (ρ2 := some (.int many)) (ρ3 := some (.loc (R.length + 1))) (ρ4 := some (.int x)) (ρ5 := ρ5) (ρ6 := ρ6) (ρ7 := ρ7) (ρ8 := ρ8) (ρ9 := ρ9) hk (by simp [rng_len]; omega)
    obtain ⟨v, v0, v1, e2⟩ := d_next (n := n) (sc := sc) (R := R ++ [.lst (rows.map eL)]) (k := k1) (b := 4) s2 (by omega)
    obtain ⟨rows', k', a, b, h1, h2, h3, h4⟩ := d_rows (ρ1 := ρ1) (ρ6 := ρ6) (ρ7 := ρ7) (ρ8 := ρ8) (ρ9 := ρ9) hm (xs := xs) (k := k1 + 1) (rows := rows ++ [if v = 0 then none else some l]) (ρ4 := some (.int x)) (ρ5 := some (ti l)) (by omega) (fun o ho => by
      rcases List.mem_append.mp ho with z | z
      · exact hr o z
      · simp at z; subst z
        intro l' e
        split at e
        · cases e
        · injection e with e; subst e; exact s1) (by simp; omega)
    refine ⟨rows', k', a, b, by rw [h1]; simp; omega, h2, h3, ?_⟩
    rw [List.map_cons]
    unfold forLoop
    have es : setT (.one 4) (.int x) [some (.loc 0), ρ1, some (.int many), some (.loc (R.length + 1)), ρ4, ρ5, ρ6, ρ7, ρ8, ρ9] = some [some (.loc 0), ρ1, some (.int many), some (.loc (R.length + 1)), some (.int x), ρ5, ρ6, ρ7, ρ8, ρ9] := rfl
    have hrl : rows.length < 1000000 := by omega
    have body : exec t.tabs (run P (n + 3)) 100000 b354_1 [some (.loc 0), ρ1, some (.int many), some (.loc (R.length + 1)), some (.int x), ρ5, ρ6, ρ7, ρ8, ρ9] (st1 sc k R (rows.map eL)) = .nx [some (.loc 0), ρ1, some (.int many), some (.loc (R.length + 1)), some (.int x), some (ti l), ρ6, ρ7, ρ8, ρ9] (st1 sc (k1 + 1) R ((rows ++ [if v = 0 then none else some l]).map eL)) := by
      clear h1 h2 h3 h4 hr
      have le : ∀ (ys : List PV) (M : Store), lcEnd (some (ys, M)) = .ok (.lst ys) M := fun _ _ => rfl
      have f1 : ∀ (k : Int) (ys : List PV), dr sc k :: (R ++ [.lst ys]) = st1 sc k R ys := fun _ _ => rfl
      have o1 := fun k xs => st1_ok (sc := sc) (k := k) (R := R) (xs := xs)
      have o2 := fun k xs v => st1_app (sc := sc) (k := k) (R := R) (xs := xs) (v := v)
      rw [f1, f1] at e2
      rw [f1] at e1
      unfold b354_1
      by_cases hv : v = 0
      · subst hv
        (fail_if_success skip)
        simp [eL]
      · (fail_if_success skip)
        simp [eL]
    rw [es]
    simp only [body]
    exact h4
/-- what may be added -/
def AddOk (rows : List (Option (List Int))) (i : Nat) (o : Option Int) : Prop := ∀ x, o = some x → (∃ l, rows[i]? = some (some l)) ∧ 0 ≤ x ∧ ∃ l, atI rows x = some (some l)
theorem d_more {ρ1 ρ5 ρ9 : Option PV} {many : Nat} {rows : List (Option (List Int))} {own : List Int} (hr : rows.length = many) (ho : ∀ x ∈ own, 0 ≤ x ∧ ∃ l, atI rows x = some (some l)) (ho2 : ∀ (i : Nat) l, rows[i]? = some (some l) → (i : Int) ∈ own) : ∀ {j : Nat} {k : Int} {more : List (Option Int)} {ρ4 ρ8 : Option PV}, 0 ≤ k → more.length + j = many → many ≤ 3 → (∀ (i : Nat) o, more[i]? = some o → AddOk rows i o) → ∃ (more' : List (Option Int)) (k' : Int) (a b : Option PV), more'.length = many ∧ (∀ (i : Nat) o, more'[i]? = some o → AddOk rows i o) ∧ 0 ≤ k' ∧
    forLoop (.one 4) (exec t.tabs (run P (n + 4)) 100000 b354_0) ((List.range' more.length j).map fun i => PV.int (Int.ofNat i)) [some (.loc 0), ρ1, some (.int many), some (.loc (R.length + 1)), ρ4, ρ5, some (.loc (R.length + 1 + 1)), some (.lst (own.map PV.int)), ρ8, ρ9] (st2 sc k R (rows.map eL) (more.map eI)) = .nx [some (.loc 0), ρ1, some (.int many), some (.loc (R.length + 1)), a, ρ5, some (.loc (R.length + 1 + 1)), some (.lst (own.map PV.int)), b, ρ9] (st2 sc k' R (rows.map eL) (more'.map eI))
  | 0, k, more, ρ4, ρ8, hk, hl, h3, hm => ⟨more, k, ρ4, ρ8, by omega, hm, hk, rfl⟩
  | j + 1, k, more, ρ4, ρ8, hk, hl, h3, hm => by
    have f1 : ∀ (k : Int) (xs ys : List PV), dr sc k :: ((R ++ [.lst xs]) ++ [.lst ys]) = st2 sc k R xs ys := fun _ _ _ => rfl
    have o1 := fun k xs ys => st2_ok (sc := sc) (k := k) (R := R) (xs := xs) (ys := ys)
    have o2 := fun k xs ys v => st2_app (sc := sc) (k := k) (R := R) (xs := xs) (ys := ys) (v := v)
    have o3 := fun k xs ys i => st2_sub (sc := sc) (k := k) (R := R) (xs := xs) (ys := ys) (i := i)
    obtain ⟨o, hro⟩ : ∃ o, rows[more.length]? = some o := ⟨_, List.getElem?_eq_getElem (by omega)⟩
    have hra : atI rows (Int.ofNat more.length) = some o := by show atI rows ((more.length : Nat) : Int) = _; rw [atI_nat]; exact hro
    have hml : more.length < 1000000 := by omega
    have step : ∃ (q : Option Int) (k1 : Int) (b : Option PV), 0 ≤ k1 ∧ AddOk rows more.length q ∧ exec t.tabs (run P (n + 4)) 100000 b354_0 [some (.loc 0), ρ1, some (.int many), some (.loc (R.length + 1)), some (.int (Int.ofNat more.length)), ρ5, some (.loc (R.length + 1 + 1)), some (.lst (own.map PV.int)), ρ8, ρ9] (st2 sc k R (rows.map eL) (more.map eI)) = .nx [some (.loc 0), ρ1, some (.int many), some (.loc (R.length + 1)), some (.int (Int.ofNat more.length)), ρ5, some (.loc (R.length + 1 + 1)), some (.lst (own.map PV.int)), b, ρ9] (st2 sc k1 R (rows.map eL) ((more ++ [q]).map eI)) := by
      unfold b354_0
      cases o with
      | none =>
        refine ⟨none, k, some (.bl false), hk, fun x hx => (by cases hx), ?_⟩
        clear hm ho ho2
        (fail_if_success skip)
        simp [eI]
      | some l =>
        obtain ⟨v, v0, v1, e1⟩ := d_next (n := n + 1) (sc := sc) (R := (R ++ [.lst (rows.map eL)]) ++ [.lst (more.map eI)]) (k := k) (b := 4) hk (by omega)
        rw [f1, f1] at e1
        by_cases hv : v = 0
        · have ow : (own.map PV.int) ≠ [] := by
            have := ho2 _ _ hro
            intro z
            have z2 : own = [] := by simpa using z
            rw [z2] at this
            simp at this
          obtain ⟨x, hx, e2⟩ := d_pick (n := n) (sc := sc) (R := (R ++ [.lst (rows.map eL)]) ++ [.lst (more.map eI)]) (k := k + 1) (xs := own.map PV.int) (by omega) ow (locFL_ints own)
          rw [f1, f1] at e2
          obtain ⟨y, hy, rfl⟩ := List.mem_map.mp hx
          refine ⟨some y, k + 1 + 1, some (.bl true), by omega, fun z hz => ?_, ?_⟩
          · injection hz with hz
            subst hz
            exact ⟨⟨l, hro⟩, ho y hy⟩
          · subst hv
            clear hm ho ho2 hx hy
            (fail_if_success skip)
            simp [eI]
        · refine ⟨none, k + 1, some (.bl false), by omega, fun x hx => (by cases hx), ?_⟩
          clear hm ho ho2
          (fail_if_success skip)
          simp [eI]
    obtain ⟨q, k1, b, hk1, hq, eb⟩ := step
    obtain ⟨more', k', a', b', h1, h2, h4, h5⟩ := d_more (ρ1 := ρ1) (ρ5 := ρ5) (ρ9 := ρ9) hr ho ho2 (j := j) (k := k1) (more := more ++ [q]) (ρ4 := some (.int (Int.ofNat more.length))) (ρ8 := b) hk1 (by simp; omega) h3 (fun i o hi => by
      rcases Nat.lt_or_ge i more.length with z | z
      · rw [List.getElem?_append_left z] at hi; exact hm i o hi
      · rw [List.getElem?_append_right z] at hi
        have e : i - more.length = 0 := by
          have := (List.getElem?_eq_some_iff.mp hi).1
          simp at this
          omega
        rw [e] at hi
        simp at hi
        subst hi
        rw [show i = more.length from by omega]
        exact hq)
    refine ⟨more', k', a', b', h1, h2, h4, ?_⟩
    rw [List.range'_succ, List.map_cons]
    unfold forLoop
    have es : setT (.one 4) (.int (Int.ofNat more.length)) [some (.loc 0), ρ1, some (.int many), some (.loc (R.length + 1)), ρ4, ρ5, some (.loc (R.length + 1 + 1)), some (.lst (own.map PV.int)), ρ8, ρ9] = some [some (.loc 0), ρ1, some (.int many), some (.loc (R.length + 1)), some (.int (Int.ofNat more.length)), ρ5, some (.loc (R.length + 1 + 1)), some (.lst (own.map PV.int)), ρ8, ρ9] := rfl
    rw [es]
    simp only [eb]
    have el : (more ++ [q]).length = more.length + 1 := by simp
    rw [el] at h5
    exact h5
theorem rng_pw (n : Nat) : (rng n).Pairwise (· < ·) := by
  unfold rng
  rw [List.pairwise_map]
  refine List.Pairwise.imp ?_ (List.pairwise_lt_range (n := n))
  intro a b h
  show (a : Int) < b
  omega
def hasR (rows : List (Option (List Int))) (p : Int) : Bool := ((atI rows p).bind id).isSome
theorem d_plan {u : Int} (hk : 0 ≤ k) (h1 : 1 ≤ u) (h3 : u ≤ 3) : ∃ (m : Mo) (k' : Int) (R' : Store), m.Ok ∧ 0 ≤ k' ∧ run P (n + 5) 354 [.loc 0, .int u] (dr sc k :: R) = .ok m.m (dr sc k' :: R') := by
  obtain ⟨v, v0, v1, e1⟩ := d_next (n := n + 1) (sc := sc) (R := R) (k := k) (b := u) hk (by omega)
  obtain ⟨mn, hmn⟩ : ∃ mn : Nat, 1 + v = (mn : Int) := ⟨(1 + v).toNat, by omega⟩
  have hm1 : 1 ≤ mn := by omega
  have hm3 : mn ≤ 3 := by omega
  have hw : mn ≤ 1000000 := by omega
  obtain ⟨rows, k1, a, b, r1, r2, r3, r4⟩ := d_rows (n := n + 1) (sc := sc) (R := R) (ρ1 := some (.int u)) (ρ6 := none) (ρ7 := none) (ρ8 := none) (ρ9 := none) (many := mn) hm3 (xs := rng mn) (k := k + 1) (rows := []) (ρ4 := none) (ρ5 := none) (by omega) (by simp) (by rw [rng_len]; simp; omega)
  have r1 : rows.length = mn := by rw [r1, rng_len]; simp
  obtain ⟨own, how⟩ : ∃ own, own = (rng mn).filter (hasR rows) := ⟨_, rfl⟩
  have ho : ∀ x ∈ own, 0 ≤ x ∧ ∃ l, atI rows x = some (some l) := fun x hx => by
    rw [how] at hx
    obtain ⟨h5, h6⟩ := List.mem_filter.mp hx
    refine ⟨(mem_rng.mp h5).1, ?_⟩
    unfold hasR at h6
    cases e : atI rows x with
    | none => rw [e] at h6; cases h6
    | some o =>
      cases o with
      | none => rw [e] at h6; cases h6
      | some l => exact ⟨l, rfl⟩
  have ho2 : ∀ (i : Nat) l, rows[i]? = some (some l) → (i : Int) ∈ own := fun i l hi => by
    rw [how]
    refine List.mem_filter.mpr ⟨mem_rng.mpr ⟨by omega, ?_⟩, ?_⟩
    · have := (List.getElem?_eq_some_iff.mp hi).1
      omega
    · unfold hasR
      rw [atI_nat, hi]
      rfl
  obtain ⟨more, k2, a2, b2, m1, m2, m3, m4⟩ := d_more (n := n) (sc := sc) (R := R) (ρ1 := some (.int u)) (ρ5 := b) (ρ9 := none) (many := mn) (rows := rows) (own := own) r1 ho ho2 (j := mn) (k := k1) (more := []) (ρ4 := a) (ρ8 := none) r3 (by simp) hm3 (by simp)
  obtain ⟨x, hx, e3⟩ := d_pick (n := n) (sc := sc) (R := (R ++ [.lst (rows.map eL)]) ++ [.lst (more.map eI)]) (k := k2) (xs := [.non, .int 0, .int (mn - 1)]) m3 (by simp) rfl
  obtain ⟨hp, ehp, ohp⟩ : ∃ hp : Option Int, x = eI hp ∧ ∀ y, hp = some y → 0 ≤ y ∧ y < mn := by
    simp only [List.mem_cons, List.not_mem_nil, or_false] at hx
    rcases hx with rfl | rfl | rfl
    · exact ⟨none, rfl, fun y hy => by cases hy⟩
    · exact ⟨some 0, rfl, fun y hy => by injection hy with hy; omega⟩
    · exact ⟨some (mn - 1), rfl, fun y hy => by injection hy with hy; omega⟩
  subst ehp
  refine ⟨⟨rows, more, hp⟩, k2 + 1, (R ++ [.lst (rows.map eL)]) ++ [.lst (more.map eI)], ?_, by omega, ?_⟩
  · refine ⟨by simp only; omega, by simp only; omega, by simp only; omega, fun l hl => ?_, fun i y hi => ?_, fun y hy => ?_⟩
    · have hs := r2 _ hl l rfl
      refine ⟨?_, fun p hp => ?_, (rng_pw mn).sublist hs⟩
      · have := hs.length_le
        rw [rng_len] at this
        omega
      · have := mem_rng.mp (hs.subset hp)
        simp only [r1]
        exact this
    · obtain ⟨q1, q2, l, q3⟩ := m2 i (some y) hi y rfl
      refine ⟨q1, q2, ?_⟩
      unfold hasD
      simp only [q3]
      rfl
    · have := ohp y hy
      simp only [r1]
      exact this
  · clear r2 m2 ho ho2 hx ohp
    have f1 : ∀ (k : Int) (ys : List PV), dr sc k :: (R ++ [.lst ys]) = st1 sc k R ys := fun _ _ => rfl
    have f2 : ∀ (k : Int) (xs ys : List PV), dr sc k :: ((R ++ [.lst xs]) ++ [.lst ys]) = st2 sc k R xs ys := fun _ _ _ => rfl
    have f3 : ∀ (k : Int) (xs ys : List PV), st1 sc k R xs ++ [.lst ys] = st2 sc k R xs ys := fun _ _ _ => by simp [st1, st2]
    have f4 : ∀ (k : Int) (xs : List PV), (st1 sc k R xs).length = R.length + 1 + 1 := fun _ _ => by simp [st1]
    have o3 := fun k xs ys i => st2_sub (sc := sc) (k := k) (R := R) (xs := xs) (ys := ys) (i := i)
    have o4 := fun k xs ys => st2_tup1 (sc := sc) (k := k) (R := R) (xs := xs) (ys := ys)
    have o5 := fun k xs ys => st2_tup2 (sc := sc) (k := k) (R := R) (xs := xs) (ys := ys)
    rw [f2, f2] at e3
    rw [f2]
    have er : (rng mn).map PV.int = (List.range' 0 mn).map fun i => PV.int (Int.ofNat i) := by
      unfold rng
      rw [List.map_map, List.range_eq_range']
      rfl
    simp only [List.map_nil, List.length_nil] at r4 m4
    rw [← er] at m4
    have hl5 : (rng mn).length ≤ mostLen := by rw [rng_len]; unfold mostLen; omega
    simp only [go354]
    clear er
    (fail_if_success skip)
    rw [lc_map (hasR rows) PV.int (fun x hx => by
      obtain ⟨x1, x2⟩ := mem_rng.mp hx
      obtain ⟨o, ho⟩ := atI_of (l := rows) x1 (by rw [r1]; exact x2)
      have eo : hasR rows x = o.isSome := by unfold hasR; rw [ho]; cases o <;> rfl
      clear r4 m4 e1 e3 how
      (fail_if_success skip)
      cases o <;> rfl) hl5, ← how]
    clear how
    (fail_if_success skip)
    rfl
theorem zip_tail : ∀ l : List Int, zip2 (l.map PV.int) ((l.drop 1).map PV.int) = (l.zip (l.drop 1)).map fun p => PV.tup [.int p.1, .int p.2] := by
  have key : ∀ l k : List Int, zip2 (l.map PV.int) (k.map PV.int) = (l.zip k).map fun p => PV.tup [.int p.1, .int p.2] := by
    intro l
    induction l with
    | nil => intro k; cases k <;> rfl
    | cons x l ih =>
      intro k
      cases k with
      | nil => rfl
      | cons y k => simp only [List.map_cons, zip2, List.zip_cons_cons, ih]
  exact fun l => key l _
theorem pw_zip : ∀ {l : List Int}, l.Pairwise (· < ·) → (l.zip (l.drop 1)).all (fun p => decide (p.1 < p.2)) = true
  | [], _ => rfl
  | [x], _ => rfl
  | x :: y :: l, h => by
    rw [List.pairwise_cons] at h
    have ih := pw_zip h.2
    simp only [List.drop_succ_cons, List.drop_zero] at ih ⊢
    rw [List.zip_cons_cons, List.all_cons]
    have h1 := h.1 y (by simp)
    simp only [h1, decide_true, Bool.true_and]
    exact ih
variable {m : Mo}
theorem r_is_lean {many : Nat} {o : Option (List Int)} (h : ∀ l, o = some l → l.length ≤ 3 ∧ (∀ p ∈ l, 0 ≤ p ∧ p < many) ∧ l.Pairwise (· < ·)) : run P (n + 2) 5 [.int many, eL o] M = .ok (.bl true) M := by
  simp only [go5]
  cases o with
  | none => (fail_if_success skip)
  | some l =>
    obtain ⟨h1, h2, h3⟩ := h l rfl
    have h4 := pw_zip h3
    have h5 : (l.all fun p => decide (0 ≤ p) && decide (p ≤ (many : Int) - 1)) = true := by
      rw [List.all_eq_true]
      intro p hp
      have := h2 p hp
      simp; omega
    have c1 : cut l (some 1) none = l.drop 1 := by rw [cut_lo (by omega)]; rfl
    have z1 := zip_tail l
    have e5 : eL (some l) = ti l := rfl
    have rn := fun p M => r_is_number (n := n) (p := p) (lo := 0) (hi := (many : Int) - 1) (M := M)
    clear h h2 h3
    (fail_if_success skip)
    rw [lc_all (fun p => PV.bl (decide (0 ≤ p) && decide (p ≤ (many : Int) - 1))) (fun x hx => by (fail_if_success skip)) (by unfold mostLen; omega)]
    (fail_if_success skip)
    have hz : (l.zip (l.drop 1)).length ≤ mostLen := by rw [List.length_zip]; unfold mostLen; omega
    rw [lc_all (fun p => PV.bl (decide (p.1 < p.2))) (fun x hx => by (fail_if_success skip)) hz]
    (fail_if_success skip)
theorem r_are_leans (hm : m.Ok) : run P (n + 3) 6 [.tup (m.ln.map eL)] [] = .ok (.bl true) [] := by
  have l1 := hm.l1
  have l3 := hm.l3
  have h1 : (1 : Int) ≤ m.ln.length := by omega
  have h3 : (m.ln.length : Int) ≤ 3 := by omega
  have hl : m.ln.length ≤ mostLen := by unfold mostLen; omega
  simp only [go6]
  (fail_if_success skip)
  rw [lc_all (fun _ => PV.bl true) (fun x hx => by
    have e1 := fun M => r_is_lean (n := n) (M := M) (many := m.ln.length) (o := x) (fun l e => hm.lns l (by rw [← e]; exact hx))
    have lx := locF_eL (h := x)
    (fail_if_success skip)) hl]
  (fail_if_success skip)
  simp
theorem zip_ad : ∀ (l : List (Option (List Int))) (k : List (Option Int)), zip2 (l.map eL) (k.map eI) = (l.zip k).map fun p => PV.tup [eL p.1, eI p.2] := by
  intro l
  induction l with
  | nil => intro k; cases k <;> rfl
  | cons x l ih =>
    intro k
    cases k with
    | nil => rfl
    | cons y k => simp only [List.map_cons, zip2, List.zip_cons_cons, ih]
theorem r_are_adds (hm : m.Ok) : run P (n + 2) 7 [.tup (m.ln.map eL), .tup (m.ad.map eI)] [] = .ok (.bl true) [] := by
  have l1 := hm.l1
  have l3 := hm.l3
  have la : (m.ad.length : Int) = m.ln.length := by rw [hm.la]
  have z1 := zip_ad m.ln m.ad
  have loop := for_test (tg := .many [2, 3]) (body := exec t.tabs (run P (n + 1)) 100000 b7_0) (f := fun p : Option (List Int) × Option Int => PV.tup [eL p.1, eI p.2]) (v := .bl false) (M := []) (fun ρ => ∃ a b, ρ = [some (.tup (m.ln.map eL)), some (.tup (m.ad.map eI)), a, b]) (fun _ => true) (xs := m.ln.zip m.ad) (fun q hq ρ hρ => by
    obtain ⟨a, b, rfl⟩ := hρ
    refine ⟨_, _, rfl, ⟨some (eL q.1), some (eI q.2), rfl⟩, ?_⟩
    simp only [if_true]
    obtain ⟨o, y⟩ := q
    unfold b7_0
    cases y with
    | none => (fail_if_success skip)
    | some y =>
      obtain ⟨i, hi, ei⟩ := List.mem_iff_getElem.mp hq
      rw [List.getElem_zip] at ei
      injection ei with ei1 ei2
      rw [List.length_zip] at hi
      have q1 : m.ad[i]? = some (some y) := by rw [List.getElem?_eq_getElem (by omega), ei2]
      have q2 : m.ln[i]? = some o := by rw [List.getElem?_eq_getElem (by omega), ei1]
      obtain ⟨⟨l, hl⟩, hy0, hy⟩ := hm.ads i y q1
      rw [q2] at hl
      cases hl
      have hd := hasD_some hy
      have hyl := atI_lt hd hy0
      have hz : (decide (0 ≤ y) && decide (y ≤ (m.ln.length : Int) - 1)) = true := by simp; omega
      have rn := fun M => r_is_number (n := n) (p := y) (lo := 0) (hi := (m.ln.length : Int) - 1) (M := M)
      have ey : eI (some y) = .int y := rfl
      rw [hz] at rn
      clear q1 q2 hm hq ei1 ei2 hz
      (fail_if_success skip))
  obtain ⟨ρ2, ⟨a, b, rfl⟩, lp⟩ := loop [some (.tup (m.ln.map eL)), some (.tup (m.ad.map eI)), none, none] ⟨none, none, rfl⟩
  rw [if_pos (by simp)] at lp
  clear loop
  simp only [go7]
  (fail_if_success skip)
theorem r_plan (hm : m.Ok) : run P (n + 4) 8 [.loc 0, .tup (m.ln.map eL), .tup (m.ad.map eI), eI m.hp] [.ins 13 [] []] = .ok .non [.ins 13 PL [.tup (m.ln.map eL), .tup (m.ad.map eI), eI m.hp]] := by
  have e1 := fun k => r_are_leans (n := k) hm
  have e2 := fun k => r_are_adds (n := k) hm
  have s1 : ∀ v, setAV t.tabs (.loc 0) "leans" v [.ins 13 [] []] = some [.ins 13 ["leans"] [v]] := fun _ => rfl
  have s2 : ∀ a v, setAV t.tabs (.loc 0) "adds" v [.ins 13 ["leans"] [a]] = some [.ins 13 ["leans", "adds"] [a, v]] := fun _ _ => rfl
  have s3 : ∀ a b v, setAV t.tabs (.loc 0) "helper" v [.ins 13 ["leans", "adds"] [a, b]] = some [.ins 13 PL [a, b, v]] := fun _ _ _ => rfl
  have f1 := locFL_map (f := eL) (fun _ => locF_eL) m.ln
  have f2 := locFL_map (f := eI) (fun _ => locF_eI) m.ad
  simp only [go8]
  cases hp : m.hp with
  | none => (fail_if_success skip)
  | some y =>
    have hy := hm.hp y hp
    have ey : eI (some y) = .int y := rfl
    have hz : (decide (0 ≤ y) && decide (y ≤ (m.ln.length : Int) - 1)) = true := by simp; omega
    have rn := fun k M => r_is_number (n := k) (p := y) (lo := 0) (hi := (m.ln.length : Int) - 1) (M := M)
    rw [hz] at rn
    (fail_if_success skip)
theorem l_made (hm : m.Ok) : run P (n + 5) 355 [m.m] M = .ok m.p M := by
  have e1 := fun k => r_plan (n := k) hm
  have kw : t.tabs.kwo 13 = ([(Str.ofString "adds"), (Str.ofString "helper")] : List Str) := by rfl
  have b22 : ((2 : Nat) == 2) = true := rfl
  have fk : ∀ a b : PV, fillK ["adds", "helper"] ["adds", "helper"] [a, b] = [a, b] := fun _ _ => rfl
  have f1 := locFL_map (f := eL) (fun _ => locF_eL) m.ln
  have f2 := locFL_map (f := eI) (fun _ => locF_eI) m.ad
  simp only [go355]
  (fail_if_success skip)
  rfl
end
end Zk.K03
-- Zl7_03
namespace Zk.K03
open PySem Zk
local macro_rules | `(tactic| fail_if_success skip) => `(tactic| simp -dsimp -implicitDefEqProofs (disch := (refine id ?_; first | decide | omega | (simp only [List.length_cons, List.length_nil, List.length_append, List.length_map, mostLen, locFL, locF, locFL_ints, locF_eH, locF_eL, locF_eI, locF_e, locF_v, locF_p, locF_m, locF_stp, locFL_stp, locF_cE, locFL_pes, locF_mk, locF_mkL, locF_pe, locF_eP, Bool.and_self]; done) | (simp only [List.length_cons, List.length_nil, List.length_append, List.length_map, mostLen, locFL, locF, locFL_ints, locF_eH, locF_eL, locF_eI, locF_e, locF_v, locF_p, locF_m, locF_stp, locFL_stp, locF_cE, locFL_pes, locF_mk, locF_mkL, locF_pe, locF_eP, Bool.and_self]; omega) | (simp only [List.length_cons, List.length_nil, List.length_append, List.length_map, mostLen, locFL, locF, locFL_ints, locF_eH, locF_eL, locF_eI, locF_e, locF_v, locF_p, locF_m, locF_stp, locFL_stp, locF_cE, locFL_pes, locF_mk, locF_mkL, locF_pe, locF_eP, Bool.and_self, *]; done) | fail)) only [
  ↓ev_anil, ↓ev_acons, ↓ev_astar, ↓ev_var, ↓ev_cst, ↓ev_glb, ↓ev_tup', ↓ev_lst', ↓ev_lstM', ↓ev_dct0, ↓ev_dct1, ↓ev_bop, ↓ev_neg, ↓ev_cmp, ↓ev_chain, ↓ev_isN, ↓ev_notN, ↓ev_notT, ↓ev_notE, ↓ev_dne, ↓ev_lenO, ↓ev_and, ↓ev_or, ↓ev_ife, ↓ev_attr, ↓ev_sub, ↓ev_slc, ↓ev_rev, ↓ev_call, ↓ev_make, ↓ev_mkK, ↓ev_meth, ↓ev_blt_q, ↓ev_bm_q, ↓ev_isi, ↓ev_lc, ↓ev_dc, ↓ev_frz,
  ↓ex_nil, ↓ex_cons, ↓ex_expr, ↓ex_set, ↓ex_asg, ↓ex_par, ↓ex_setA, ↓ex_asgA, ↓ex_setI, ↓ex_ret, ↓ex_retN, ↓ex_ife, ↓ex_for, ↓ex_pass, ↓ex_cont,
  ↓look_z, ↓look_s, ↓setS_z, ↓setS_s, setMany_n, ↓setMany_c, bargs_tup, bind_ok, toS_ok, then_nx, then_rt, fin_nx, fin_rt, of_some, ofB_some_q, br_bl, optB_some, optS_some, optM_some, asgS_tup, asgAS_tup, chainV_some, bind_ite, toS_ite, then_ite, fin_ite, ok_bl_ite, ok_word_ite, fst_fold, Option.isNone_none, Option.isNone_some, Option.isSome_none, Option.isSome_some,
  thaw_tup_q, thaw_lst, thaw_str, thaw_int, thaw_non, seqV_tup, seqV_lst, len_tup, len_lst, lt_int, le_int, gt_int, ge_int, eq_int, ne_int, cmp_in, cmp_notin, eq_word, ne_word, eq_hand, eq_eI, ne_ti_nil, in_ti, bop_add, bop_sub, neg_int, not_bl, sub_tup, sub_lst, at0, at5_1, at5_2, at5_3, at5_4, at2_1, at3_1, at3_2, at_map, slc_tup, slc_lst, cut_map, part_none, part_int, isAnil_anil, isAnil_cst, isAnil_var, isAnil_neg, isAnil_bop, isNV_eL, isNV_eI, isNV_non, isNV_tup, isNV_lst, isNV_int, tupV_ok, lstV_ok, lstMV_ok, isoEnd_ok, callT, callF, bop_addT, bop_addL,
  lcTurn_eq, turnV_bl, valO_ok, setT_one, setT_many, wipeS_n, ↓wipeS_c, wip_z, wip_s, all_bl, any_bl, srt_ints, srt_intsT, tupl_lst, tupl_tup, lstF_lst, lstF_tup, lrng_int, walk_tup, walk_lst, walk_rng, walk_zipT, walk_zipL, lenEnd_int, cast_0, cast_1, cast_2, cast_3, cast_5, Bool.and_self, ↓len_t0, ↓len_t1, ↓len_t2, ↓len_t5, Nat.reduceAdd, Int.reduceLE, Int.reduceLT, Int.reduceEq, Int.reduceAdd, Int.reduceSub, Int.reduceNeg, Int.reduceMul, mm_0, mm_1, mm_2, st_ld0, st_ld1, st_ag0, st_ag1, st_w0, ne_li_nil, eq_um, lc_nil, ne_nil_nil, dl_sub1, dl_sub0, dl_in0, dl_len1, dl_len0, dl_set0, dl_app, dl_appOk, dl_popOk, dl_pop, dl_thaw, dl_frz1, dl_frz0, isNV_fw, isNV_pe, isNV_cE, dcTurn_eq, turnD_bl, valK_ok, key_pe_if, walk_dct, in_w3, in_stps, ne_ti, eq_ti, dne_mk, isNV_eP, pe_0, pe_1, asg_se, slc_se, makeF, mkEnd_ok, makeT, mkEndT_ok,
  mul_r, mul_l, bop_mod, bop_div, bop_pow18, intI_int, dr_0, dr_1, dr_2, dr_set, Option.map_some, Bool.not_not, if_true, if_false, ↓reduceIte, List.append_nil, List.cons_append, List.nil_append, List.length_map, List.length_cons, List.length_nil, decide_eq_true_eq, Bool.not_true, Bool.not_false, reduceCtorEq, decide_false, decide_true, Bool.false_eq_true, List.singleton_append, map_snoc, map_app, Option.some.injEq, and_true, true_and, and_false, false_and, g_mq, a_plan, a_rules, a_phase, a_loaded, a_queue, a_emptied, a_helper, s_phase, s_loaded, s_queue, s_emptied, s_helper, s_used, s_lost, m_enqueue, m_begin, m_load, m_stop, m_end, m_taken, m_do_next, m_fail, m_empty, m_go_on, m_do, m_do_late, p_leans, p_adds, p_helper, p_len, g_ru0, g_ru1, g_ru2, g_ru3, g_ru4, g_s0, g_s1, g_s2, g_s3, g_s4, g_end, g_most, g_parts, g_i3, g_i2, g_i1, g_i0, g_iP, s_du, s_dl, s_dul, s_frzD, g_rules, g_ruI, g_ruL, m_frz, m_init14, m_init13, a_oused, a_olost, a_ophase, a_oloaded, a_oqueue, a_oemptied, a_ohelper, m_state_now, b3, b4, b5, b6, b7, b8, b10, b14, b15, b16, b18, b19, b20, b21, b22, b23, b24, b25, b26, b27, b28, b29, b30, b31, b32, b33, b34, b35, b36, b37, b38, b39, b109, b110, b111, b112, b114, b115, b117, b118, b119, b120, b349, b350, b351, b352, b353, b354, b355, b356, b357, b358, b359, b360, b361, b362, b363, b364, b365, b366, b367, b368, b369, *])

section
variable {n : Nat} {M R : Store} {sc : List Int} {k i : Int} {m : Mo} {r1 r2 : Ru} {K : Nat} {b : B} {c : List Stp} {l : List (S × S)}
theorem fin_le (hF : Fin' m r1 r2 K) : K ≤ 301 := by
  rcases Nat.eq_zero_or_pos K with h | h
  · omega
  · have h1 := hF.on (K - 1) (by omega)
    have h2 := hF.le (k := K - 1) (by omega)
    omega
theorem cmp_none (h : b.part = none) : cmpE b = alE b.line := by unfold cmpE alE; rw [h]
theorem cmp_some (h : b.part = some c) : cmpE b = paE c := by unfold cmpE paE; rw [h]
theorem isi_al22 : isiV t.tabs (alE l) M [.c 22] = some true := rfl
theorem isi_al23 : isiV t.tabs (alE l) M [.c 23] = some false := rfl
theorem isi_pa22 : isiV t.tabs (paE c) M [.c 22] = some false := rfl
theorem isi_pa23 : isiV t.tabs (paE c) M [.c 23] = some true := rfl
theorem meth_al : methOf t.tabs (alE l) "shows" M = some 114 := rfl
theorem meth_pa : methOf t.tabs (paE c) "shows" M = some 117 := rfl
theorem locF_al : locF (alE l) = true := by simp only [alE, locF, locFL, locFL_pes, Bool.and_self]
theorem locF_pa : locF (paE c) = true := by simp only [paE, locF, locFL, locF_cE, Bool.and_self]
theorem ne_bl {a b : Bool} : cmpV M .ne (.bl a) (.bl b) = some (!(a == b)) := rfl
theorem ne_fw {o : Option (List Stp)} : cmpV M .ne (fwE o) (fwE o) = some false := by
  cases o with
  | none => rfl
  | some c => rw [fw_some, ne_int]; simp
theorem locF_fw {o : Option (List Stp)} : locF (fwE o) = true := by cases o <;> rfl
theorem p_first (hm : m.Ok) (h1 : r1.Ok) (h2 : r2.Ok) (hF : Fin' m r1 r2 K) : run P (n + 10) 120 [m.p, r1.v, r2.v] [] = .ok (fwE (bfsN m r1 r2 K).part) [] := by
  obtain ⟨M', e1⟩ := p_compare (n := n) hm h1 h2 hF (fin_le hF)
  have a1 := @isi_al23
  have a2 := @isi_pa23
  have a3 := @a_course
  have a4 := @locF_al
  have a5 := @locF_pa
  have a6 := @len_cE
  simp only [go120]
  cases hp : (bfsN m r1 r2 K).part with
  | none =>
    rw [cmp_none hp] at e1
    (fail_if_success skip)
    rfl
  | some c =>
    rw [cmp_some hp] at e1
    (fail_if_success skip)
    rfl
theorem p_are_alike (hm : m.Ok) (h1 : r1.Ok) (h2 : r2.Ok) (hF : Fin' m r1 r2 K) : run P (n + 10) 119 [m.p, r1.v, r2.v] [] = .ok (.bl (bfsN m r1 r2 K).part.isNone) [] := by
  obtain ⟨M', e1⟩ := p_compare (n := n) hm h1 h2 hF (fin_le hF)
  have a1 := @isi_al22
  have a2 := @isi_pa22
  have a4 := @locF_al
  have a5 := @locF_pa
  simp only [go119]
  cases hp : (bfsN m r1 r2 K).part with
  | none =>
    rw [cmp_none hp] at e1
    (fail_if_success skip)
  | some c =>
    rw [cmp_some hp] at e1
    (fail_if_success skip)
theorem p_mkAl {M : Store} (h : locFL [PV.lst (l.map pe)] = true) : makeV true 22 (run P (n + 1) 112) [.lst (l.map pe)] M = .ok (alE l) M := by
  rw [makeT h, p_alikeL, mkEndT_ok (by simp only [locFL, locF, locFL_pes, Bool.and_self])]
  rfl
theorem p_mkPa {M : Store} : makeV true 23 (run P (n + 1) 115) [.lst (c.map Stp.e)] M = .ok (paE c) M := by
  rw [makeT (by simp only [locFL, locF, locFL_stp, Bool.and_self]), p_partedL, mkEndT_ok (by simp only [locFL, locF, locFL_stp, Bool.and_self])]
  rfl
theorem bfs_pos : 0 < (bfsN m r1 r2 K).line.length := by
  have := (bfs_le (m := m) (r1 := r1) (r2 := r2) 0 K).len
  rw [Nat.zero_add] at this
  have e : (bfsN m r1 r2 0).line.length = 1 := rfl
  omega
theorem pes_app {a b : List (S × S)} : a.map pe ++ b.map pe = (a ++ b).map pe := by simp
theorem pes_rev {a : List (S × S)} : (a.map pe).reverse = a.reverse.map pe := by simp
theorem rev_lst {xs : List PV} : revV (.lst xs) M = .ok (.lst xs.reverse) M := rfl
/-- lists of pairs, shown and asked -/
theorem l_loop1 (hm : m.Ok) (h1 : r1.Ok) (h2 : r2.Ok) {x4 x5 x8 x9 x10 x11 x12 : Option PV} {x0 : PV} : ∀ {ls : List (List (S × S))} {x3 : Option PV}, (∀ l ∈ ls, (∀ p ∈ l, POk m p) ∧ l.length ≤ 900000) → ∃ y, forLoop (.one 3) (exec t.tabs (run P (n + 10)) 100000 b368_1) (ls.map fun l => PV.lst (l.map pe)) [some x0, some m.p, some (rig m r1 r2), x3, x4, x5, some r1.v, some r2.v, x8, x9, x10, x11, x12] M = .nx [some x0, some m.p, some (rig m r1 r2), y, x4, x5, some r1.v, some r2.v, x8, x9, x10, x11, x12] M := by
  intro ls
  induction ls with
  | nil => intro x3 _; exact ⟨x3, rfl⟩
  | cons l ls ih =>
    intro x3 h
    obtain ⟨g1, g2⟩ := h l List.mem_cons_self
    obtain ⟨y, hy⟩ := ih (x3 := some (.lst (l.map pe))) fun l' hl' => h l' (List.mem_cons_of_mem _ hl')
    refine ⟨y, ?_⟩
    rw [List.map_cons]
    unfold forLoop
    have es : setT (.one 3) (PV.lst (l.map pe)) [some x0, some m.p, some (rig m r1 r2), x3, x4, x5, some r1.v, some r2.v, x8, x9, x10, x11, x12] = some [some x0, some m.p, some (rig m r1 r2), some (.lst (l.map pe)), x4, x5, some r1.v, some r2.v, x8, x9, x10, x11, x12] := rfl
    have body : exec t.tabs (run P (n + 10)) 100000 b368_1 [some x0, some m.p, some (rig m r1 r2), some (.lst (l.map pe)), x4, x5, some r1.v, some r2.v, x8, x9, x10, x11, x12] M = .nx [some x0, some m.p, some (rig m r1 r2), some (.lst (l.map pe)), x4, x5, some r1.v, some r2.v, x8, x9, x10, x11, x12] M := by
      have q1 := fun M => p_mkAl (n := n + 9) (l := l) (M := M) (by simp only [locFL, locF, locFL_pes, Bool.and_self])
      have q2 := fun k => p_shows (n := k) hm h1 h2 g1 g2
      have q3 := fun k => l_are_alike (n := k) (r1 := r1) (r2 := r2) hm g1 g2
      have lr : locF (rig m r1 r2) = true := by simp only [rig, locF, locFL, locF_m, locF_v, Bool.and_self]
      have a1 := @meth_al
      have a2 := @locF_al
      have a3 := @ne_bl
      have a4 := i22
      have b1 : ∀ b : Bool, (b == b) = true := fun b => by simp
      clear hy ih es h
      unfold b368_1
      (fail_if_success skip)
    rw [es]
    simp only [body]
    exact hy
theorem l_loop2 (hm : m.Ok) (h1 : r1.Ok) (h2 : r2.Ok) {x3 x4 x8 x9 x10 x11 x12 : Option PV} {x0 : PV} : ∀ {ls : List (List Stp)} {x5 : Option PV}, ∃ y, forLoop (.one 5) (exec t.tabs (run P (n + 10)) 100000 b368_0) (ls.map fun l => PV.lst (l.map Stp.e)) [some x0, some m.p, some (rig m r1 r2), x3, x4, x5, some r1.v, some r2.v, x8, x9, x10, x11, x12] M = .nx [some x0, some m.p, some (rig m r1 r2), x3, x4, y, some r1.v, some r2.v, x8, x9, x10, x11, x12] M := by
  intro ls
  induction ls with
  | nil => intro x5; exact ⟨x5, rfl⟩
  | cons l ls ih =>
    intro x5
    obtain ⟨y, hy⟩ := ih (x5 := some (.lst (l.map Stp.e)))
    refine ⟨y, ?_⟩
    rw [List.map_cons]
    unfold forLoop
    have es : setT (.one 5) (PV.lst (l.map Stp.e)) [some x0, some m.p, some (rig m r1 r2), x3, x4, x5, some r1.v, some r2.v, x8, x9, x10, x11, x12] = some [some x0, some m.p, some (rig m r1 r2), x3, x4, some (.lst (l.map Stp.e)), some r1.v, some r2.v, x8, x9, x10, x11, x12] := rfl
    have body : exec t.tabs (run P (n + 10)) 100000 b368_0 [some x0, some m.p, some (rig m r1 r2), x3, x4, some (.lst (l.map Stp.e)), some r1.v, some r2.v, x8, x9, x10, x11, x12] M = .nx [some x0, some m.p, some (rig m r1 r2), x3, x4, some (.lst (l.map Stp.e)), some r1.v, some r2.v, x8, x9, x10, x11, x12] M := by
      have q1 := fun M => p_mkPa (n := n + 9) (c := l) (M := M)
      have q2 := fun k => p_pshows (n := k) (c := l) hm h1 h2
      have q3 := fun k => l_is_parted (n := k) (r1 := r1) (r2 := r2) (c := l) hm
      have lr : locF (rig m r1 r2) = true := by simp only [rig, locF, locFL, locF_m, locF_v, Bool.and_self]
      have a1 := @meth_pa
      have a2 := @locF_pa
      have a3 := @ne_bl
      have a4 := i23
      have b1 : ∀ b : Bool, (b == b) = true := fun b => by simp
      clear hy ih es
      unfold b368_0
      (fail_if_success skip)
    rw [es]
    simp only [body]
    exact hy
theorem l_rig (hk : 0 ≤ k) (hm : m.Ok) (h1 : r1.Ok) (h2 : r2.Ok) : ∃ k', 0 ≤ k' ∧ run P (n + 11) 368 [.loc 0, m.p, rig m r1 r2] (dr sc k :: R) = .ok (.bl true) (dr sc k' :: R) := by
  have g1 := fun M => rig_1 (m := m) (r1 := r1) (r2 := r2) (M := M)
  have g2 := fun M => rig_2 (m := m) (r1 := r1) (r2 := r2) (M := M)
  have lr : locF (rig m r1 r2) = true := by simp only [rig, locF, locFL, locF_m, locF_v, Bool.and_self]
  rcases l_pairs (n := n + 5) (r1 := r1) (r2 := r2) hm with ⟨M', e1⟩ | ⟨K, M', hF, e1⟩
  · refine ⟨k, hk, ?_⟩
    simp only [go368]
    (fail_if_success skip)
  · obtain ⟨v, v0, v1, e2⟩ := d_next (n := n + 7) (sc := sc) (R := R) (k := k) (b := (bfsN m r1 r2 K).line.length) hk (by have := bfs_pos (m := m) (r1 := r1) (r2 := r2) (K := K); omega)
    have e3 := p_first (n := n) hm h1 h2 hF
    have e4 := p_are_alike (n := n) hm h1 h2 hF
    obtain ⟨M2, e5⟩ := p_compare (n := n + 1) hm h1 h2 hF (fin_le hF)
    have few := hF.few
    have bo := bfs_ok (r1 := r1) (r2 := r2) hm K
    have like := hF.like hm
    have pt := bo.pt
    have pok := bo.ok
    clear hF
    generalize bfsN m r1 r2 K = b at *
    have a1 := @isi_al22
    have a2 := @isi_pa22
    have a3 := @meth_al
    have a4 := @meth_pa
    have a5 := @locF_al
    have a6 := @locF_pa
    have a7 := @locF_fw
    have a8 := @ne_fw
    have a9 := @ne_bl
    have a10 := locFL_pes b.line
    have a11 := @rev_lst
    have a12 := @pes_app
    have a13 := @pes_rev
    have a14 : (true == true) = true := rfl
    have a15 : (false == false) = true := rfl
    have c1 : cut b.line none (some 1) = b.line.take 1 := by rw [cut_hi (by omega)]; rfl
    have c2 : cut b.line none (some v) = b.line.take v.toNat := cut_hi v0
    have c3 : cut b.line (some (v + 1)) none = b.line.drop (v + 1).toNat := cut_lo (by omega)
    have n1 : b.line.reverse.length + (b.line.take 1).length ≤ 1000000 := by rw [List.length_reverse, List.length_take]; omega
    have n2 : (b.line.take v.toNat).length + (b.line.drop (v + 1).toNat).length ≤ 1000000 := by rw [List.length_take, List.length_drop]; omega
    have pk : ∀ l ∈ [b.line, b.line.reverse ++ b.line.take 1, b.line.take v.toNat ++ b.line.drop (v + 1).toNat, []], (∀ p ∈ l, POk m p) ∧ l.length ≤ 900000 := by
      intro l hl
      simp only [List.mem_cons, List.not_mem_nil, or_false] at hl
      rcases hl with rfl | rfl | rfl | rfl
      · exact ⟨pok, by omega⟩
      · refine ⟨fun p hp => ?_, by simp; omega⟩
        rcases List.mem_append.mp hp with z | z
        · exact pok p (by simpa using z)
        · exact pok p (List.mem_of_mem_take z)
      · refine ⟨fun p hp => ?_, by simp; omega⟩
        rcases List.mem_append.mp hp with z | z
        · exact pok p (List.mem_of_mem_take z)
        · exact pok p (List.mem_of_mem_drop z)
      · exact ⟨fun p hp => (by cases hp), by simp⟩
    have lp1 := fun x8 x9 x10 x11 x12 => l_loop1 (n := n) (M := dr sc (k + 1) :: R) (x0 := .loc 0) (x4 := none) (x5 := none) (x8 := x8) (x9 := x9) (x10 := x10) (x11 := x11) (x12 := x12) hm h1 h2 (x3 := none) pk
    simp only [List.map_cons, List.map_nil] at lp1
    have al := l_are_alike (n := n + 5) (r1 := r1) (r2 := r2) (l := b.line) hm pok (by omega)
    refine ⟨k + 1, by omega, ?_⟩
    simp only [go368]
    cases hp : b.part with
    | none =>
      rw [cmp_none hp] at e5
      rw [hp] at e1 e3 e4
      have q1 := fun k => p_shows (n := k) hm h1 h2 pok (by omega)
      rw [like hp] at q1 al
      obtain ⟨y, lp⟩ := lp1 (some (.tup [.lst (b.line.map pe), fwE none])) (some (.lst (b.line.map pe))) (some (fwE none)) (some (alE b.line)) (some (.int v))
      obtain ⟨z, lq⟩ := l_loop2 (n := n) (M := dr sc (k + 1) :: R) (x0 := .loc 0) (x3 := y) (x4 := some (.lst [.tup [.str Wo.end_.s], .tup [.str Wo.next.s]])) (x8 := some (.tup [.lst (b.line.map pe), fwE none])) (x9 := some (.lst (b.line.map pe))) (x10 := some (fwE none)) (x11 := some (alE b.line)) (x12 := some (.int v)) hm h1 h2 (ls := [[.w .end_, .w .next], [.w .end_], [.w .next], [.w .end_, .w .next, .w .bell], [.ld 0, .w .end_, .w .next], []]) (x5 := none)
      simp only [List.map_cons, List.map_nil, Stp.e] at lq
      have a16 := @a_pairs
      have s1 : ∀ (a b : PV) M, slcV (.lst [a, b]) none (some (-1)) M = some (.lst [a]) := fun _ _ _ => rfl
      have s2 : ∀ (a b : PV) M, slcV (.lst [a, b]) (some 1) none M = some (.lst [b]) := fun _ _ _ => rfl
      clear like pt pk lp1 c1 c2 c3
      have c1 : cut b.line none (some 1) = b.line.take 1 := by rw [cut_hi (by omega)]; rfl
      have c2 : cut b.line none (some v) = b.line.take v.toNat := cut_hi v0
      have c3 : cut b.line (some (v + 1)) none = b.line.drop (v + 1).toNat := cut_lo (by omega)
      (fail_if_success skip)
    | some c =>
      rw [cmp_some hp] at e5
      rw [hp] at e1 e3 e4
      have q1 := fun k => p_pshows (n := k) (c := c) hm h1 h2
      have q2 := l_is_parted (n := n + 5) (r1 := r1) (r2 := r2) (c := c) hm
      rw [pt c hp] at q1 q2
      obtain ⟨y, lp⟩ := lp1 (some (.tup [.lst (b.line.map pe), fwE (some c)])) (some (.lst (b.line.map pe))) (some (fwE (some c))) (some (paE c)) (some (.int v))
      obtain ⟨z, lq⟩ := l_loop2 (n := n) (M := dr sc (k + 1) :: R) (x0 := .loc 0) (x3 := y) (x4 := some (.lst (c.map Stp.e))) (x8 := some (.tup [.lst (b.line.map pe), fwE (some c)])) (x9 := some (.lst (b.line.map pe))) (x10 := some (fwE (some c))) (x11 := some (paE c)) (x12 := some (.int v)) hm h1 h2 (ls := [c, c.dropLast, c.drop 1, c ++ [.w .bell], .ld 0 :: c, []]) (x5 := none)
      simp only [List.map_cons, List.map_nil, List.map_append, Stp.e] at lq
      have a16 := @a_course
      have a17 : ∀ M, bltV .lstF [cE c] M = .ok (.lst (c.map Stp.e)) M := fun _ => rfl
      have s1 : cut c none (some (-1)) = c.dropLast := cut_m1
      have s2 : cut c (some 1) none = c.drop 1 := by rw [cut_lo (by omega)]; rfl
      have n3 : c.length ≤ 900000 := by
        have := bo.pl c hp
        rw [← bo.len] at this
        omega
      clear like pt pk lp1 al
      (fail_if_success skip)
theorem l_law_loop {x0 : PV} : ∀ {xs : List Int} {k : Int} {R : Store} {x2 x3 x4 : Option PV}, 0 ≤ k → ∃ (k' : Int) (R' : Store) (y2 y3 y4 : Option PV), forLoop (.one 2) (exec t.tabs (run P (n + 11)) 100000 b369_0) (xs.map PV.int) [some x0, some (.loc 0), x2, x3, x4] (dr sc k :: R) = .nx [some x0, some (.loc 0), y2, y3, y4] (dr sc k' :: R')
  | [], k, R, x2, x3, x4, hk => ⟨k, R, x2, x3, x4, rfl⟩
  | x :: xs, k, R, x2, x3, x4, hk => by
    obtain ⟨m, k1, R1, hm, hk1, e1⟩ := d_plan (n := n + 6) (sc := sc) (R := R) (k := k) (u := 2) hk (by omega) (by omega)
    obtain ⟨r1, k2, h1, hk2, e2⟩ := d_words (n := n + 6) (sc := sc) (R := R1) hk1
    obtain ⟨r2, k3, R3, h2, hk3, e3⟩ := d_near (n := n + 5) (sc := sc) (R := R1) hk2 h1
    obtain ⟨k4, hk4, e4⟩ := l_rig (n := n) (sc := sc) (R := R3) hk3 hm h1 h2
    have e5 := fun M => l_made (n := n + 6) (M := M) hm
    obtain ⟨k', R', y2, y3, y4, ih⟩ := l_law_loop (xs := xs) (k := k4) (R := R3) (x2 := some (.int x)) (x3 := some m.m) (x4 := some r1.v) hk4
    refine ⟨k', R', y2, y3, y4, ?_⟩
    rw [List.map_cons]
    unfold forLoop
    have es : setT (.one 2) (.int x) [some x0, some (.loc 0), x2, x3, x4] = some [some x0, some (.loc 0), some (.int x), x3, x4] := rfl
    have body : exec t.tabs (run P (n + 11)) 100000 b369_0 [some x0, some (.loc 0), some (.int x), x3, x4] (dr sc k :: R) = .nx [some x0, some (.loc 0), some (.int x), some m.m, some r1.v] (dr sc k4 :: R3) := by
      have rg : PV.tup [m.m, r1.v, r2.v] = rig m r1 r2 := rfl
      rw [← rg] at e4
      clear ih es rg
      unfold b369_0
      (fail_if_success skip)
    rw [es]
    simp only [body]
    exact ih
theorem the_law (ns : List Int) (h : ns.length ≤ 63) : ∃ M, run P 12 369 [.rol (ns.map PV.int)] [] = .ok (.bl true) M := by
  obtain ⟨k', R', y2, y3, y4, lp⟩ := l_law_loop (n := 0) (sc := ns.take 63) (x0 := .rol (ns.map PV.int)) (xs := rng 3) (k := 0) (R := []) (x2 := none) (x3 := none) (x4 := none) (by omega)
  refine ⟨dr (ns.take 63) k' :: R', ?_⟩
  have e1 : ∀ M, slcV (.rol (ns.map PV.int)) none (some 63) M = some (.lst ((ns.take 63).map PV.int)) := fun M => by
    show some (PV.lst (cut (ns.map PV.int) none (some 63))) = _
    rw [cut_map, cut_hi (by omega)]
    rfl
  have e2 : ([] : Store) ++ [.lst [.lst ((ns.take 63).map PV.int), .int 0, .int 0]] = [dr (ns.take 63) 0] := rfl
  have e3 : walkV .range [.int 3] = some ((rng 3).map PV.int) := walk_rng (j := 3) (by omega)
  have e4 : [MO.lst [.lst ((ns.take 63).map PV.int), .int 0, .int 0]] = [dr (ns.take 63) 0] := rfl
  rw [show (12 : Nat) = 11 + 1 from rfl]
  simp only [go369]
  rw [show (11 : Nat) = 0 + 11 from rfl]
  (fail_if_success skip)
end
end Zk.K03
set_option maxHeartbeats 4000000
theorem PySem.Challenge.cw_enddeeds_k03_whole_alike_holds : PySem.Challenge.rw_enddeeds_k03_whole_alike.Holds := by
  exact Zk.K03.holds_of Zk.K03.the_law
