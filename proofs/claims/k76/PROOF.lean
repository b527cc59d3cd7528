import PyProof.Rows.All
import Wide.All
import OpenK.AllK
import Wide.FinOn
import HandS.ForMost
import HandS.Walk
import HandS.Star
import HandS.Zip
import HandS.TupAny
import HandS.TupMul
import HandS.Conv
import HandS.Deep
import HandS.DictComp
import HandS.IsInst
import HandS.TupLe
import HandS.Style
import HandS.SortInts
import HandS.More
import KE.SortData
import KE.DataMinMax
import KE.DataCmp
import KE.KTupSum
import KE.DataEq
import KE.KDictPairs
import KE.KDictOf
import HandS.HeadHook2
import HandS.Comp
import HandS.Iter
import HandS.Words
import HandS.WordsExc
import HandS.Defaults
import KE.GoesMore
import HandS.Set
import HandS.SetFor
import KE.KStateDown
import Lean
import HandS.Base
import HandS.Call
import HandS.Ends
import HandS.Head0
import HandS.Head1
import HandS.Head2
import HandS.HeadEnd
import HandS.HeadHook1
import PySem.Challenge.RW_greenheld_k76_whole_plans_are_shown
set_option Elab.async false
set_option linter.all false
/-! A small pure language of trees: values, terms by slots, what they come to. No machine in sight. -/
namespace Gh

/-- a dict's key -/
abbrev K := Sum Int String

inductive T where
  | non
  | bl (b : Bool)
  | int (i : Int)
  | str (x : String)
  | tup (xs : List T)
  /-- a tuple of which it is known that it is a plain object -/
  | ptup (xs : List T)
  | lst (xs : List T)
  | dK (kvs : List (K × T))
  | dT (kvs : List (List K × T))
  | rng (lo hi : Int)
  | scr (ns : List Int)
  | src

/-- the state of the law's source of draws -/
structure St where
  cells : List Int
  left : Int
  mixed : Int
  turn : Int
abbrev Src := Option St

/-- what a slot holds: nothing; a value that nobody changes; a list or dict of one's own; the same while it is walked; a list of lists of one's own -/
inductive Slot where
  | un
  | sh (t : T)
  | ow (t : T)
  | lk (t : T)
  | ow2 (xs : List (List T))

inductive B where
  | len | any | all | tuple | ptuple | list | sorted | sum | max | min | abs | int | dict | sset
  deriving DecidableEq
inductive Op where
  | add | sub | mul | fdiv | mod | pow
  deriving DecidableEq
inductive Cm where
  | eq | ne | lt | le | gt | ge | inn | nin
  deriving DecidableEq
inductive Ty where
  | int | bool | str | tuple | list | dict
  deriving DecidableEq

inductive Tg where
  | var (i : Nat)
  | tup (ts : List Tg)

inductive E where
  | var (i : Nat)
  | cI (n : Int)
  | cS (s : String)
  | cB (b : Bool)
  | cN
  | bin (o : Op) (a b : E)
  | cmp (o : Cm) (a b : E)
  | isN (neg : Bool) (a : E)
  | isB (neg : Bool) (b : Bool) (a : E)
  | ch (o p : Cm) (a b c : E)
  | neg (a : E)
  | not (a : E)
  | and (a b : E)
  | or (a b : E)
  | ite (c a b : E)
  | tup (es : List E)
  | lst (es : List E)
  | star (e : E)
  | kv (k v : E)
  | dct (ds : List E)
  | dctS (o : E) (ds : List E)
  | lots (n : Nat)
  | ptup0
  | idx (a i : E)
  | sl (a lo hi : E)
  | rev (a : E)
  | call (f : String) (es : List E)
  | bi (f : B) (a : E)
  | bi2 (f : B) (a b : E)
  | isi (a : E) (ty : Ty)
  | lrange (es : List E)
  | callL (f : String) (es : List E)
  | lvals (o : E)
  | get (o k : E)
  | get2 (o k d : E)
  | index (o x : E)
  | comp (elt : E) (tg : Tg) (it c : E) (own : List Nat)
  | comp2 (elt : E) (tg : Tg) (it : E) (tg2 : Tg) (it2 : E) (own : List Nat)
  | compK (elt : E) (tg : Tg) (i : Nat) (c : E) (own : List Nat)
  | dcomp (k v : E) (tg : Tg) (it c : E) (own : List Nat)
  | range (es : List E)
  | enum (e : E)
  | zip (es : List E)

inductive TgS where
  | var (i : Nat)
  | sub (i : Nat) (k : E)

inductive S where
  | share (i : Nat)
  | asg (tg : Tg) (e : E)
  | asgs (ts : List TgS) (es : List E)
  | set (i : Nat) (k e : E)
  | aug (i : Nat) (o : Op) (e : E)
  | augset (i : Nat) (k : E) (o : Op) (e : E)
  | app (i : Nat) (e : E)
  | ext (i : Nat) (e : E)
  | upd (i : Nat) (e : E)
  | app2 (i : Nat) (k e : E)
  | ret (e : E)
  | retN
  | ite (c : E) (a b : List S)
  | for_ (tg : Tg) (it : E) (body : List S)
  | forK (tg : Tg) (i : Nat) (body : List S)
  | cont
  | brk
  | pass
  | never

inductive Out where
  | nx
  | ct
  | bk
  | rt (t : T)

/-! ### values -/
def line : Nat := 16777216

mutual
def eqT : T → T → Bool
  | .non, .non => true
  | .bl a, .bl b => a == b
  | .bl a, .int j => decide ((if a then 1 else 0) = j)
  | .int i, .bl b => decide (i = (if b then 1 else 0))
  | .int i, .int j => decide (i = j)
  | .str x, .str y => decide (x = y)
  | .tup xs, .tup ys => eqTs xs ys
  | .tup xs, .ptup ys => eqTs xs ys
  | .ptup xs, .tup ys => eqTs xs ys
  | .ptup xs, .ptup ys => eqTs xs ys
  | .lst xs, .lst ys => eqTs xs ys
  | _, _ => false
def eqTs : List T → List T → Bool
  | [], [] => true
  | x :: xs, y :: ys => eqT x y && eqTs xs ys
  | _, _ => false
end

-- data without dicts: what == is told for
mutual
def flat : T → Bool
  | .non | .bl _ | .int _ | .str _ => true
  | .tup xs => flats xs
  | .ptup xs => flats xs
  | .lst xs => flats xs
  | _ => false
def flats : List T → Bool
  | [] => true
  | x :: xs => flat x && flats xs
end
mutual
def depth : T → Nat
  | .tup xs => depths xs + 1
  | .ptup xs => depths xs + 1
  | .lst xs => depths xs + 1
  | _ => 0
def depths : List T → Nat
  | [] => 0
  | x :: xs => max (depth x) (depths xs)
end
-- without lists and dicts
mutual
def plain : T → Bool
  | .non | .bl _ | .int _ | .str _ => true
  | .tup xs => plains xs
  | _ => false
def plains : List T → Bool
  | [] => true
  | x :: xs => plain x && plains xs
end
def data (t : T) : Bool := flat t && decide (depth t ≤ 60)

-- order: rgInts, tuples of such
mutual
def alikeT : T → T → Bool
  | .int _, .int _ => true
  | .tup xs, .tup ys => alikeTs xs ys
  | _, _ => false
def alikeTs : List T → List T → Bool
  | x :: xs, y :: ys => alikeT x y && alikeTs xs ys
  | [], _ => true
  | _ :: _, [] => true
end
mutual
def ltB : T → T → Bool
  | .int i, .int j => decide (i < j)
  | .tup xs, .tup ys => ltBs xs ys
  | _, _ => false
def ltBs : List T → List T → Bool
  | [], [] => false
  | [], _ :: _ => true
  | _ :: _, [] => false
  | x :: xs, y :: ys => if eqT x y then ltBs xs ys else ltB x y
end
def allAlike (xs : List T) : Bool := xs.all fun x => data x && xs.all fun y => alikeT x y
def isTup1 : T → Bool
  | .tup (_ :: _) => true
  | _ => false
def isInt : T → Bool
  | .int _ => true
  | _ => false
def leT (a b : T) : Bool := !ltB b a
def sortT : List T → Option (List T)
  | [] => some []
  | [x] => some [x]
  | xs => if allAlike xs && (xs.all isTup1 || xs.all isInt) then some (xs.mergeSort leT) else none
def minT : List T → Option T
  | [] => none
  | x :: xs => if allAlike (x :: xs) then some (xs.foldl (fun a y => if ltB y a then y else a) x) else none
def maxT : List T → Option T
  | [] => none
  | x :: xs => if allAlike (x :: xs) then some (xs.foldl (fun a y => if ltB a y then y else a) x) else none

def rgInts (lo : Int) (n : Nat) : List T := (List.range n).map fun (k : Nat) => T.int (lo + (k : Int))
def rngB (lo hi : Int) : Bool := decide (-1000000 ≤ lo) && decide (lo ≤ 1000000) && decide (-1000000 ≤ hi) && decide (hi ≤ 1000000)
def seqOf : T → Option (List T)
  | .tup xs => some xs
  | .ptup xs => some xs
  | .lst xs => some xs
  | .rng lo hi => if rngB lo hi then some (rgInts lo (hi - lo).toNat) else none
  | _ => none
/-- the same of what stands as a list or tuple -/
def seqN : T → Option (List T)
  | .tup xs => some xs
  | .ptup xs => some xs
  | .lst xs => some xs
  | _ => none
def isCont : T → Bool
  | .lst _ => true
  | .dK _ => true
  | .dT _ => true
  | _ => false

def intOf : T → Option Int
  | .int i => some i
  | _ => none
def intsOf : List T → Option (List Int)
  | [] => some []
  | .int i :: r => (intsOf r).map (i :: ·)
  | _ :: _ => none
def blsOf : List T → Option (List Bool)
  | [] => some []
  | .bl b :: r => (blsOf r).map (b :: ·)
  | _ :: _ => none

/-! keys -/
def keyK : T → Option K
  | .int i => some (.inl i)
  | .str s => some (.inr s)
  | _ => none
def keyKs : List T → Option (List K)
  | [] => some []
  | t :: r => match keyK t with
    | none => none
    | some k => (keyKs r).map (k :: ·)
def ofK : K → T
  | .inl i => .int i
  | .inr s => .str s
section
variable {κ : Type} [DecidableEq κ]
def look (kvs : List (κ × T)) (k : κ) : Option T := (kvs.find? fun kv => decide (kv.1 = k)).map (·.2)
def put (kvs : List (κ × T)) (k : κ) (v : T) : List (κ × T) :=
  if kvs.any fun kv => decide (kv.1 = k) then kvs.map fun kv => if kv.1 = k then (kv.1, v) else kv else kvs ++ [(k, v)]
def merge (kvs more : List (κ × T)) : List (κ × T) := more.foldl (fun acc kv => put acc kv.1 kv.2) kvs
end

/-- d[k], None where it is not there; none: not told -/
def dlook : T → T → Option (Option T)
  | .dK kvs, t => match keyK t with
    | some k => some (look kvs k)
    | none => none
  | .dT kvs, .tup ts => match keyKs ts with
    | some ks => some (look kvs ks)
    | none => none
  | _, _ => none
/-- a dict without entries may be asked for a tuple -/
def dlook' : T → T → Option (Option T)
  | .dK [], .tup ts => (keyKs ts).map fun _ => none
  | d, k => dlook d k
def dput : T → T → T → Option T
  | .dK kvs, t, v => if kvs.length < line then (keyK t).map fun k => .dK (put kvs k v) else none
  | .dT kvs, .tup ts, v => if kvs.length < line then (keyKs ts).map fun ks => .dT (put kvs ks v) else none
  | _, _, _ => none
def dputs (d : T) : List T → Option T
  | [] => some d
  | .tup [k, v] :: r => match dput d k v with
    | none => none
    | some d' => dputs d' r
  | _ :: _ => none
/-- pairs (k, v) as entries -/
def pairsOf : List T → Option (List (K × T))
  | [] => some []
  | .tup [a, b] :: r => match keyK a with
    | none => none
    | some k => (pairsOf r).map ((k, b) :: ·)
  | _ :: _ => none

/-! places -/
def ixN (n : Nat) (i : Int) : Option Nat := if 0 ≤ i then (if i < n then some i.toNat else none) else if -(n : Int) ≤ i then some (i + n).toNat else none
def sIx (n d : Nat) : Option Int → Nat
  | none => d
  | some v => if v < 0 then (v + (n : Int)).toNat else min v.toNat n
def cut (xs : List T) (lo hi : Option Int) : List T := (xs.drop (sIx xs.length 0 lo)).take (sIx xs.length xs.length hi - sIx xs.length 0 lo)

/-! ### operations -/
def mulOk (i j : Int) : Bool := decide (-(2 ^ 64) < i ∧ i < 2 ^ 64) || decide (-(2 ^ 64) < j ∧ j < 2 ^ 64)
def binT : Op → T → T → Option T
  | .add, .int i, .int j => some (.int (i + j))
  | .add, .lst xs, .lst ys => if xs.length + ys.length ≤ line then some (.lst (xs ++ ys)) else none
  | .add, .tup xs, .tup ys => if xs.length + ys.length ≤ line then some (.tup (xs ++ ys)) else none
  | .sub, .int i, .int j => some (.int (i - j))
  | .mul, .int i, .int j => if mulOk i j then some (.int (i * j)) else none
  | .mul, .tup xs, .int k => if decide (k ≤ 1000) && decide (-1000 ≤ k) && decide (xs.length ≤ 1000) then some (.tup (List.replicate k.toNat xs).flatten) else none
  | .mul, .lst xs, .int k => if decide (k ≤ 1000) && decide (-1000 ≤ k) && decide (xs.length ≤ 1000) then some (.lst (List.replicate k.toNat xs).flatten) else none
  | .fdiv, .int i, .int j => if 0 < j ∧ j < 1073741824 then some (.int (i / j)) else none
  | .mod, .int i, .int j => if 0 < j then some (.int (i % j)) else none
  | .pow, .int i, .int j => if 0 ≤ j ∧ j ≤ 1000 ∧ i.natAbs < 2 ^ 64 then some (.int (i ^ j.toNat)) else none
  | _, _, _ => none
def inT (x : T) (xs : List T) : Bool := xs.any fun y => eqT y x
def cmpT : Cm → T → T → Option Bool
  | .eq, a, b => if data a && data b then some (eqT a b) else none
  | .ne, a, b => if data a && data b then some (!eqT a b) else none
  | .lt, .int i, .int j => some (decide (i < j))
  | .gt, .int i, .int j => some (decide (j < i))
  | .le, .int i, .int j => some (decide (i ≤ j))
  | .ge, .int i, .int j => some (decide (j ≤ i))
  | .inn, x, .tup ys => if data x && data (.tup ys) then some (inT x ys) else none
  | .inn, x, .lst ys => if data x && data (.lst ys) then some (inT x ys) else none
  | .inn, k, d => (dlook' d k).map Option.isSome
  | .nin, x, .tup ys => if data x && data (.tup ys) then some (!inT x ys) else none
  | .nin, x, .lst ys => if data x && data (.lst ys) then some (!inT x ys) else none
  | .nin, k, d => (dlook' d k).map fun o => !o.isSome
  | _, _, _ => none
def idxT : T → T → Option T
  | .tup xs, .int i => (ixN xs.length i).bind fun j => xs[j]?
  | .lst xs, .int i => (ixN xs.length i).bind fun j => xs[j]?
  | d, k => (dlook d k).bind id
def bound : T → Option (Option Int)
  | .non => some none
  | .int i => some (some i)
  | _ => none
def isCN : E → Bool
  | .cN => true
  | _ => false
/-- an end that is told is a number -/
def bnd (c : Bool) (t : T) : Bool := match t with
  | .int _ => !c
  | .non => c
  | _ => false
def slT (a lo hi : T) : Option T := match bound lo, bound hi with
  | some l, some h => (match a with
    | .tup xs => some (.tup (cut xs l h))
    | .lst xs => some (.lst (cut xs l h))
    | _ => none)
  | _, _ => none
def revT : T → Option T
  | .lst xs => some (.lst xs.reverse)
  | _ => none
/-- each once -/
def ddI : List Int → List Int
  | [] => []
  | x :: xs => if x ∈ xs then ddI xs else x :: ddI xs
def biT : B → T → Option T
  | .len, .tup xs => some (.int xs.length)
  | .len, .ptup xs => some (.int xs.length)
  | .len, .lst xs => some (.int xs.length)
  | .len, .dK kvs => some (.int kvs.length)
  | .any, .lst xs => (blsOf xs).map fun bs => .bl (bs.any id)
  | .all, .lst xs => (blsOf xs).map fun bs => .bl (bs.all id)
  | .tuple, .tup xs => some (.tup xs)
  | .tuple, .lst xs => some (.tup xs)
  | .ptuple, .lst xs => some (.ptup xs)
  | .list, .tup xs => some (.lst xs)
  | .list, .lst xs => some (.lst xs)
  | .list, .dT kvs => some (.lst (kvs.map fun kv => .tup (kv.1.map ofK)))
  | .sorted, .lst xs => (sortT xs).map .lst
  | .sorted, .dK kvs => if kvs.length < 64 && (kvs.map fun kv => ofK kv.1).all isInt then some (.lst ((kvs.map fun kv => ofK kv.1).mergeSort leT)) else none
  | .sum, .lst xs => (intsOf xs).map fun ns => .int ns.sum
  | .sum, .tup xs => (intsOf xs).map fun ns => .int ns.sum
  | .max, .lst xs => maxT xs
  | .max, .tup xs => maxT xs
  | .min, .lst xs => minT xs
  | .min, .tup xs => minT xs
  | .abs, .int i => some (.int (if i < 0 then -i else i))
  | .int, .int i => some (.int i)
  | .int, .bl b => some (.int (if b then 1 else 0))
  | .dict, .dK kvs => some (.dK kvs)
  | .dict, .ptup xs => (pairsOf xs).map fun kvs => .dK (merge [] kvs)
  | .dict, .lst xs => (pairsOf xs).map fun kvs => .dK (merge [] kvs)
  | .sset, .tup xs => (intsOf xs).bind fun ns => if ns.length < 64 then some (.lst (((ddI ns).mergeSort fun a b => decide (a ≤ b)).map .int)) else none
  | _, _ => none
def biT2 : B → T → T → Option T
  | .max, .int i, .int j => some (.int (if j > i then j else i))
  | .min, .int i, .int j => some (.int (if j < i then j else i))
  | _, _, _ => none
def isiT : T → Ty → Option Bool
  | .int _, ty => some (ty == .int)
  | .bl _, ty => some (ty == .int || ty == .bool)
  | .str _, ty => some (ty == .str)
  | .non, _ => some false
  | .tup _, ty => some (ty == .tuple)
  | .ptup _, ty => some (ty == .tuple)
  | .lst _, ty => some (ty == .list)
  | .dK _, ty => some (ty == .dict)
  | _, _ => none
def indexT (xs : List T) (x : T) : Option Nat := if data (.lst xs) && data x then xs.findIdx? fun y => eqT y x else none

/-! ### targets -/
mutual
def tgV : Tg → List Nat
  | .var i => [i]
  | .tup ts => tgVs ts
def tgVs : List Tg → List Nat
  | [] => []
  | t :: r => tgV t ++ tgVs r
end
mutual
def asgTg : Tg → T → List Slot → Option (List Slot)
  | .var i, t, env => if i < env.length then some (env.set i (.sh t)) else none
  | .tup ts, .tup xs, env => asgTgs ts xs env
  | .tup _, _, _ => none
def asgTgs : List Tg → List T → List Slot → Option (List Slot)
  | [], [], env => some env
  | t :: ts, x :: xs, env => match asgTg t x env with
    | none => none
    | some e => asgTgs ts xs e
  | _, _, _ => none
end
def wipe (env : List Slot) : List Nat → List Slot
  | [] => env
  | v :: vs => (wipe env vs).set v .un
/-- none of these slots holds a container of one's own -/
def freeB : Option Slot → Bool
  | some (.ow _) => false
  | some (.lk _) => false
  | some (.ow2 _) => false
  | _ => true
def ownFree (env : List Slot) (vs : List Nat) : Bool := vs.all fun i => freeB env[i]?
def contS : Slot → Option T
  | .sh t => some t
  | .ow t => some t
  | .lk t => some t
  | _ => none
def lkS : Slot → Option T
  | .ow (.dK kvs) => some (.dK kvs)
  | _ => none

/-! ### walks -/
/-- [elt for tg in xs if c] -/
def compL (elt c : List Slot → Src → Option (T × Src)) (tg : Tg) (env : List Slot) : List T → Src → Option (List T × Src)
  | [], s => some ([], s)
  | x :: xs, s => match asgTg tg x env with
    | none => none
    | some env1 => (match c env1 s with
      | some (.bl true, s1) => (match elt env1 s1 with
        | none => none
        | some (y, s2) => (match compL elt c tg env xs s2 with
          | none => none
          | some (ys, s3) => some (y :: ys, s3)))
      | some (.bl false, s1) => compL elt c tg env xs s1
      | _ => none)
/-- the same where the inner part gives lists that are joined -/
def compL2 (inner : List Slot → Src → Option (List T × Src)) (tg : Tg) (env : List Slot) : List T → Src → Option (List T × Src)
  | [], s => some ([], s)
  | x :: xs, s => match asgTg tg x env with
    | none => none
    | some env1 => (match inner env1 s with
      | none => none
      | some (ys, s1) => (match compL2 inner tg env xs s1 with
        | none => none
        | some (zs, s2) => some (ys ++ zs, s2)))
def numT (k : Nat) : List T → List T
  | [] => []
  | x :: xs => .tup [.int k, x] :: numT (k + 1) xs
def zipT : List (List T) → List T
  | [] => []
  | [xs] => xs.map fun x => .tup [x]
  | xs :: rest => zipC xs (zipT rest)
where
  zipC : List T → List T → List T
  | x :: xs, .tup ys :: zs => .tup (x :: ys) :: zipC xs zs
  | _, _ => []
def seqsOf : List T → Option (List (List T))
  | [] => some []
  | t :: r => match seqN t, seqsOf r with
    | some xs, some yss => some (xs :: yss)
    | _, _ => none
def rangeT : List T → Option T
  | [.int j] => if 0 ≤ j ∧ j ≤ 1000000 then some (.rng 0 j) else none
  | [.int i, .int j] => if -1000000 ≤ i ∧ i ≤ 1000000 ∧ -1000000 ≤ j ∧ j ≤ 1000000 then some (.rng i j) else none
  | _ => none

/-- a dict that is walked is not lent -/
def lendB (env : List Slot) (es : List E) : Bool := es.all fun e => match e with
  | .var i => (match env[i]? with
    | some (.lk _) => false
    | some (.ow2 _) => false
    | _ => true)
  | .enum _ => false
  | .zip _ => false
  | _ => true
def seqS (p : T × Src) : Option (List T × Src) := (seqOf p.1).map fun xs => (xs, p.2)
def fits (r : Option (List T × Src)) : Option (T × Src) := match r with
  | some (xs, s) => if xs.length ≤ line then some (.lst xs, s) else none
  | none => none

mutual
/-- m: also what one's own slot holds may be read -/
def evE (Φ : String → List T → Src → Option (T × Src)) : E → Bool → List Slot → Src → Option (T × Src)
  | .var i, m, env, s => match env[i]? with
    | some (.sh t) => some (t, s)
    | some (.ow t) => if m then some (t, s) else none
    | some (.lk t) => if m then some (t, s) else none
    | _ => none
  | .cI n, _, _, s => some (.int n, s)
  | .cS x, _, _, s => some (.str x, s)
  | .cB b, _, _, s => some (.bl b, s)
  | .cN, _, _, s => some (.non, s)
  | .bin o a b, _, env, s => match evE Φ a true env s with
    | none => none
    | some (x, s1) => (match evE Φ b true env s1 with
      | none => none
      | some (y, s2) => (binT o x y).map fun r => (r, s2))
  | .cmp o a b, _, env, s => match evE Φ a true env s with
    | none => none
    | some (x, s1) => (match evE Φ b true env s1 with
      | none => none
      | some (y, s2) => (cmpT o x y).map fun r => (.bl r, s2))
  | .isN neg a, _, env, s => match evE Φ a true env s with
    | none => none
    | some (.non, s1) => some (.bl (!neg), s1)
    | some (_, s1) => some (.bl neg, s1)
  | .isB neg b a, _, env, s => match evE Φ a true env s with
    | some (.bl c, s1) => some (.bl (if neg then !(c == b) else c == b), s1)
    | _ => none
  | .ch o p a b c, _, env, s => match evE Φ a true env s with
    | none => none
    | some (x, s1) => (match evE Φ b true env s1 with
      | none => none
      | some (y, s2) => (match cmpT o x y with
        | none => none
        | some false => some (.bl false, s2)
        | some true => (match evE Φ c true env s2 with
          | none => none
          | some (z, s3) => (cmpT p y z).map fun r => (.bl r, s3))))
  | .neg a, _, env, s => match evE Φ a true env s with
    | some (.int i, s1) => some (.int (-i), s1)
    | _ => none
  | .not a, _, env, s => match evE Φ a true env s with
    | some (.bl b, s1) => some (.bl (!b), s1)
    | _ => none
  | .and a b, _, env, s => match evE Φ a true env s with
    | some (.bl true, s1) => evE Φ b false env s1
    | some (.bl false, s1) => some (.bl false, s1)
    | _ => none
  | .or a b, _, env, s => match evE Φ a true env s with
    | some (.bl true, s1) => some (.bl true, s1)
    | some (.bl false, s1) => evE Φ b false env s1
    | _ => none
  | .ite c a b, _, env, s => match evE Φ c true env s with
    | some (.bl true, s1) => evE Φ a false env s1
    | some (.bl false, s1) => evE Φ b false env s1
    | _ => none
  | .tup es, _, env, s => match evEs Φ es env s with
    | some (xs, s1) => if xs.length ≤ line then some (.tup xs, s1) else none
    | none => none
  | .lst es, _, env, s => fits (evEs Φ es env s)
  | .star _, _, _, _ => none
  | .kv _ _, _, _, _ => none
  | .dct ds, _, env, s => match evD Φ ds env s with
    | some (ps, s1) => if ps.length ≤ 15 then some (.dK (merge [] ps), s1) else none
    | none => none
  | .dctS o ds, _, env, s => match evE Φ o true env s with
    | some (.dK kvs, s1) => if kvs.length ≤ 1000 then (match evD Φ ds env s1 with
      | some (ps, s2) => if ps.length ≤ 15 then some (.dK (merge (merge [] kvs) (merge [] ps)), s2) else none
      | none => none) else none
    | _ => none
  | .ptup0, _, _, s => some (.ptup [], s)
  | .lots n, _, _, s => some (.lst (List.replicate n (.lst [])), s)
  | .idx a i, _, env, s => match evE Φ a true env s with
    | none => none
    | some (x, s1) => (match evE Φ i false env s1 with
      | none => none
      | some (y, s2) => (idxT x y).map fun r => (r, s2))
  | .sl a lo hi, _, env, s => match evE Φ a true env s with
    | none => none
    | some (x, s1) => (match evE Φ lo false env s1 with
      | none => none
      | some (y, s2) => (match evE Φ hi false env s2 with
        | none => none
        | some (z, s3) => if bnd (isCN lo) y && bnd (isCN hi) z then (slT x y z).map fun r => (r, s3) else none))
  | .rev a, _, env, s => match evE Φ a true env s with
    | none => none
    | some (x, s1) => (revT x).map fun r => (r, s1)
  | .call f es, _, env, s => match evEs Φ es env s with
    | none => none
    | some (xs, s1) => Φ f xs s1
  | .lrange es, _, env, s => match evTs Φ es true env s with
    | none => none
    | some (xs, s1) => (match rangeT xs with
      | some (.rng lo hi) => some (.lst (rgInts lo (hi - lo).toNat), s1)
      | _ => none)
  | .callL f es, _, env, s => match evTs Φ es true env s with
    | none => none
    | some (xs, s1) => if !lendB env es then none else (match Φ f xs s1 with
      | some (t, s2) => if plain t then some (t, s2) else none
      | none => none)
  | .lvals o, _, env, s => match evE Φ o true env s with
    | some (.dT kvs, s1) => some (.lst (kvs.map fun kv => kv.2), s1)
    | some (.dK kvs, s1) => some (.lst (kvs.map fun kv => kv.2), s1)
    | _ => none
  | .bi f a, _, env, s => match evE Φ a true env s with
    | none => none
    | some (x, s1) => (biT f x).map fun r => (r, s1)
  | .bi2 f a b, _, env, s => match evE Φ a true env s with
    | none => none
    | some (x, s1) => (match evE Φ b true env s1 with
      | none => none
      | some (y, s2) => (biT2 f x y).map fun r => (r, s2))
  | .isi a ty, _, env, s => match evE Φ a true env s with
    | none => none
    | some (x, s1) => (isiT x ty).map fun r => (.bl r, s1)
  | .get o k, _, env, s => match evE Φ o true env s with
    | none => none
    | some (x, s1) => (match evE Φ k false env s1 with
      | none => none
      | some (y, s2) => (dlook x y).map fun r => (r.getD .non, s2))
  | .get2 o k d, _, env, s => match evE Φ o true env s with
    | none => none
    | some (x, s1) => (match evE Φ k false env s1 with
      | none => none
      | some (y, s2) => (match evE Φ d false env s2 with
        | none => none
        | some (z, s3) => (dlook x y).map fun r => (r.getD z, s3)))
  | .index o x, _, env, s => match evE Φ o true env s with
    | none => none
    | some (a, s1) => (match evE Φ x true env s1 with
      | none => none
      | some (y, s2) => (match seqOf a with
        | none => none
        | some xs => (indexT xs y).map fun j => (.int (j : Nat), s2)))
  | .comp elt tg it c own, _, env, s => match (evE Φ it true env s).bind seqS with
    | none => none
    | some (xs, s1) => if ownFree env own then fits (compL (evE Φ elt false) (evE Φ c true) tg (wipe env own) xs s1) else none
  | .comp2 elt tg it tg2 it2 own, _, env, s => match (evE Φ it true env s).bind seqS with
    | none => none
    | some (xs, s1) => if ownFree env own then fits (compL2 (fun env1 s2 => match (evE Φ it2 true env1 s2).bind seqS with
        | none => none
        | some (ys, s3) => compL (evE Φ elt false) (fun _ s => some (.bl true, s)) tg2 (wipe env1 (tgV tg2)) ys s3) tg (wipe env own) xs s1) else none
  | .compK elt tg i c own, _, env, s => match (env[i]?).bind lkS with
    | some (.dK kvs) => if ownFree env own then fits (compL (evE Φ elt false) (evE Φ c true) tg (wipe (env.set i (.lk (.dK kvs))) own) (kvs.map fun kv => ofK kv.1) s) else none
    | _ => none
  | .dcomp k v tg it c own, _, env, s => match (evE Φ it true env s).bind seqS with
    | none => none
    | some (xs, s1) => if ownFree env own then (match compL (fun env1 s => match evE Φ k false env1 s with
        | none => none
        | some (x, s2) => (match evE Φ v false env1 s2 with
          | none => none
          | some (y, s3) => some (.tup [x, y], s3))) (evE Φ c true) tg (wipe env own) xs s1 with
      | none => none
      | some (ps, s2) => (match dputs (.dK []) ps with
        | none => none
        | some d => some (d, s2))) else none
  | .range es, _, env, s => match evTs Φ es true env s with
    | none => none
    | some (xs, s1) => (rangeT xs).map fun r => (r, s1)
  | .enum e, m, env, s => match evE Φ e m env s with
    | none => none
    | some (x, s1) => (seqN x).map fun r => (.lst (numT 0 r), s1)
  | .zip es, m, env, s => match evTs Φ es m env s with
    | none => none
    | some (xs, s1) => (seqsOf xs).map fun r => (.lst (zipT r), s1)
/-- items, stars spliced -/
def evEs (Φ : String → List T → Src → Option (T × Src)) : List E → List Slot → Src → Option (List T × Src)
  | [], _, s => some ([], s)
  | .star e :: es, env, s => match evE Φ e true env s with
    | none => none
    | some (x, s1) => (match seqN x with
      | none => none
      | some xs => (match evEs Φ es env s1 with
        | none => none
        | some (ys, s2) => some (xs ++ ys, s2)))
  | e :: es, env, s => match evE Φ e false env s with
    | none => none
    | some (x, s1) => (match evEs Φ es env s1 with
      | none => none
      | some (ys, s2) => some (x :: ys, s2))
/-- operands that are only read -/
def evTs (Φ : String → List T → Src → Option (T × Src)) : List E → Bool → List Slot → Src → Option (List T × Src)
  | [], _, _, s => some ([], s)
  | e :: es, m, env, s => match evE Φ e m env s with
    | none => none
    | some (x, s1) => (match evTs Φ es m env s1 with
      | none => none
      | some (ys, s2) => some (x :: ys, s2))
/-- the pairs of a dict's display -/
def evD (Φ : String → List T → Src → Option (T × Src)) : List E → List Slot → Src → Option (List (K × T) × Src)
  | [], _, s => some ([], s)
  | .kv k v :: r, env, s => match evE Φ k false env s with
    | none => none
    | some (x, s1) => (match evE Φ v false env s1 with
      | none => none
      | some (y, s2) => (match keyK x with
        | none => none
        | some kk => (match evD Φ r env s2 with
          | none => none
          | some (ps, s3) => some ((kk, y) :: ps, s3))))
  | _ :: _, _, _ => none
end

/-! ### statements -/
/-- a term that makes a new list or dict -/
def freshE : E → Bool
  | .lst _ => true
  | .dct _ => true
  | .dctS _ _ => true
  | .comp _ _ _ _ _ => true
  | .comp2 _ _ _ _ _ _ => true
  | .compK _ _ _ _ _ => true
  | .dcomp _ _ _ _ _ _ => true
  | .bi .list _ => true
  | .bi .sorted _ => true
  | .bi .dict _ => true
  | .lvals _ => true
  | .lrange _ => true
  | .bin .add _ _ => true
  | .bin .mul _ _ => true
  | .sl _ _ _ => true
  | .rev _ => true
  | _ => false
def mkS : E → T → Slot
  | .lots n, _ => .ow2 (List.replicate n [])
  | e, t => if freshE e && isCont t then .ow t else .sh t
def shareS : Slot → Slot
  | .ow t => .sh t
  | .ow2 xs => .sh (.lst (xs.map .lst))
  | x => x
def setC (i : Nat) (k v : T) (env : List Slot) : Option (List Slot) := match env[i]? with
  | some (.ow (.lst xs)) => (match k with
    | .int n => (ixN xs.length n).map fun j => env.set i (.ow (.lst (xs.set j v)))
    | _ => none)
  | some (.ow d) => (dput d k v).map fun d' => env.set i (.ow d')
  | _ => none
/-- for tg in xs -/
def forL (body : List Slot → Src → Option (Out × List Slot × Src)) (tg : Tg) : List T → List Slot → Src → Option (Out × List Slot × Src)
  | [], env, s => some (.nx, env, s)
  | x :: xs, env, s => match asgTg tg x env with
    | none => none
    | some e1 => (match body e1 s with
      | none => none
      | some (.nx, e2, s2) => forL body tg xs e2 s2
      | some (.ct, e2, s2) => forL body tg xs e2 s2
      | some (.bk, e2, s2) => some (.nx, e2, s2)
      | some (.rt t, e2, s2) => some (.rt t, e2, s2))
section
variable (Φ : String → List T → Src → Option (T × Src))
/-- a, b = x, y behind their values -/
def asgVals : List TgS → List E → List T → List Slot → Src → Option (List Slot × Src)
  | [], [], [], env, s => some (env, s)
  | .var j :: ts, e :: es, t :: tt, env, s => if j < env.length then asgVals ts es tt (env.set j (mkS e t)) s else none
  | .sub i k :: ts, _ :: es, t :: tt, env, s => match evE Φ k false env s with
    | none => none
    | some (kt, s1) => (match setC i kt t env with
      | none => none
      | some env1 => asgVals ts es tt env1 s1)
  | _, _, _, _, _ => none
mutual
def evS : S → List Slot → Src → Option (Out × List Slot × Src)
  | .share i, env, s => match env[i]? with
    | some (.ow2 _) => none
    | some x => some (.nx, env.set i (shareS x), s)
    | none => none
  | .asg (.var j) e, env, s => match evE Φ e false env s with
    | none => none
    | some (t, s1) => if j < env.length then some (.nx, env.set j (mkS e t), s1) else none
  | .asg tg e, env, s => match evE Φ e false env s with
    | none => none
    | some (t, s1) => (match asgTg tg t env with
      | none => none
      | some env1 => some (.nx, env1, s1))
  | .asgs ts es, env, s => match evEs Φ es env s with
    | none => none
    | some (tt, s1) => (match asgVals Φ ts es tt env s1 with
      | none => none
      | some (env1, s2) => some (.nx, env1, s2))
  | .set i k e, env, s => match evE Φ e false env s with
    | none => none
    | some (t, s1) => (match evE Φ k false env s1 with
      | none => none
      | some (kt, s2) => (match setC i kt t env with
        | none => none
        | some env1 => some (.nx, env1, s2)))
  | .aug i o e, env, s => match env[i]? with
    | some (.sh x) => (match evE Φ e true env s with
      | none => none
      | some (y, s1) => (match x, y, binT o x y with
        | .int _, .int _, some z => some (.nx, env.set i (.sh z), s1)
        | _, _, _ => none))
    | _ => none
  | .augset i k o e, env, s => match (env[i]?).bind contS with
    | none => none
    | some c => (match evE Φ k false env s with
      | none => none
      | some (kt, s1) => (match idxT c kt with
        | none => none
        | some x => (match evE Φ e true env s1 with
          | none => none
          | some (y, s2) => (match x, y, binT o x y with
            | .int _, .int _, some z => (match setC i kt z env with
              | none => none
              | some env1 => some (.nx, env1, s2))
            | _, _, _ => none))))
  | .app i e, env, s => match evE Φ e false env s with
    | none => none
    | some (t, s1) => (match env[i]? with
      | some (.ow (.lst xs)) => if xs.length < line then some (.nx, env.set i (.ow (.lst (xs ++ [t]))), s1) else none
      | _ => none)
  | .ext i e, env, s => match evE Φ e true env s with
    | some (.lst ys, s1) => (match env[i]? with
      | some (.ow (.lst xs)) => if xs.length + ys.length ≤ line then some (.nx, env.set i (.ow (.lst (xs ++ ys))), s1) else none
      | _ => none)
    | _ => none
  | .upd i e, env, s => match evE Φ e true env s with
    | some (.dK ys, s1) => (match env[i]? with
      | some (.ow (.dK xs)) => if xs.length + ys.length ≤ line then some (.nx, env.set i (.ow (.dK (merge xs ys))), s1) else none
      | _ => none)
    | _ => none
  | .app2 i k e, env, s => match evE Φ k false env s with
    | some (.int n, s1) => (match evE Φ e false env s1 with
      | none => none
      | some (t, s2) => (match env[i]? with
        | some (.ow2 xss) => (match ixN xss.length n with
          | some j => (match xss[j]? with
            | some xs => if xs.length < line then some (.nx, env.set i (.ow2 (xss.set j (xs ++ [t]))), s2) else none
            | none => none)
          | none => none)
        | _ => none))
    | _ => none
  | .ret e, env, s => match evE Φ e false env s with
    | none => none
    | some (t, s1) => some (.rt t, env, s1)
  | .retN, env, s => some (.rt .non, env, s)
  | .ite c a b, env, s => match evE Φ c true env s with
    | some (.bl true, s1) => evSs a env s1
    | some (.bl false, s1) => evSs b env s1
    | _ => none
  | .for_ tg it body, env, s => match (evE Φ it false env s).bind seqS with
    | none => none
    | some (xs, s1) => forL (evSs body) tg xs env s1
  | .forK tg i body, env, s => match (env[i]?).bind lkS with
    | some (.dK kvs) => (match forL (evSs body) tg (kvs.map fun kv => ofK kv.1) (env.set i (.lk (.dK kvs))) s with
      | some (.nx, env1, s1) => (match env1[i]? with
        | some (.lk d) => some (.nx, env1.set i (.ow d), s1)
        | _ => none)
      | some (.rt t, env1, s1) => some (.rt t, env1.set i .un, s1)
      | _ => none)
    | _ => none
  | .cont, env, s => some (.ct, env, s)
  | .brk, env, s => some (.bk, env, s)
  | .pass, env, s => some (.nx, env, s)
  | .never, _, _ => none
def evSs : List S → List Slot → Src → Option (Out × List Slot × Src)
  | [], env, s => some (.nx, env, s)
  | x :: r, env, s => match evS x env s with
    | none => none
    | some (.nx, env1, s1) => evSs r env1 s1
    | some o => some o
end
end

/-! ### defs -/
structure Def where
  np : Nat
  ns : Nat
  body : List S
inductive Df where
  | code (d : Def)
  | prim (F : List T → Src → Option (T × Src))
def evFn (Φ : String → List T → Src → Option (T × Src)) (d : Def) (args : List T) (s : Src) : Option (T × Src) :=
  if args.length = d.np then (match evSs Φ d.body (args.map .sh ++ List.replicate (d.ns - d.np) .un) s with
    | some (.rt t, _, s1) => some (t, s1)
    | some (.nx, _, s1) => some (.non, s1)
    | _ => none) else none
def run (P : String → Option Df) : Nat → String → List T → Src → Option (T × Src)
  | 0, _, _, _ => none
  | n + 1, f, args, s => match P f with
    | some (.code d) => evFn (run P n) d args s
    | some (.prim F) => F args s
    | none => none

/-! ### the draws -/
/-- while left < 2 and cells: left = cells.pop() -/
def popTo : List Int → Int → List Int × Int
  | [], l => ([], l)
  | c :: cs, l => if l < 2 then popTo cs c else (c :: cs, l)
def stir (m t : Int) : Int := (((m + t * 104729) % 998244353) * ((m + t * 104729) % 998244353) + t * 17) % 2147483647
/-- cells are kept with the last one first -/
def pickSt (most : Int) (s : St) : Int × St :=
  if most < 2 then (0, s) else
  let p := popTo s.cells s.left
  if p.2 > 1 then (p.2 % most, { s with cells := p.1, left := p.2 / most })
  else (stir s.mixed (s.turn + 1) / 16 % most, { s with cells := p.1, left := p.2, turn := s.turn + 1 })
def pickF : List T → Src → Option (T × Src)
  | [.src, .int most], some s => if most < 1073741824 then some (.int (pickSt most s).1, some (pickSt most s).2) else none
  | _, _ => none
/-- others.pop(pick(source, len(others))) as long as there are some -/
def drawOrder : Nat → List T → St → List T × St
  | 0, _, s => ([], s)
  | n + 1, xs, s =>
    let k := (pickSt xs.length s).1.toNat
    let r := drawOrder n (xs.eraseIdx k) (pickSt xs.length s).2
    (xs.getD k .non :: r.1, r.2)
def seqL : T → Option (List T)
  | .tup xs => some xs
  | .lst xs => some xs
  | _ => none
def orderF : List T → Src → Option (T × Src)
  | [.src, t], some s => (match seqL t with
    | some xs => if xs.length ≤ 1000 then some (.lst (drawOrder xs.length xs s).1, some (drawOrder xs.length xs s).2) else none
    | none => none)
  | _, _ => none
def stir0 (m : Int) : List Int → Int
  | [] => m
  | c :: cs => stir0 ((m * 69069 + c * 31 + 5) % 2147483629) cs
def openF : List T → Src → Option (T × Src)
  | [.scr ns], none => if ns.length ≤ 1000 then some (.src, some { cells := ns.map fun n => if n < 0 then -n else n, left := 1, mixed := stir0 11 ns, turn := 0 }) else none
  | _, _ => none

end Gh
set_option linter.all false
set_option maxRecDepth 100000
set_option maxHeartbeats 1000000
namespace Gh
open PySem PySem.Spec PyProof.Rows L2

theorem str_inj {a b : String} (h : Str.ofString a = Str.ofString b) : a = b := by
  rw [Str.ofString_eq_toList, Str.ofString_eq_toList] at h
  have h1 : (a.toList.map Char.toNat) = (b.toList.map Char.toNat) := by
    have := congrArg (fun s : Str => s.cps.toList) h
    simpa using this
  have h2 : a.toList = b.toList := by
    have inj : ∀ (l m : List Char), l.map Char.toNat = m.map Char.toNat → l = m := by
      intro l
      induction l with
      | nil => intro m e; cases m with
        | nil => rfl
        | cons c t => simp at e
      | cons c t ih => intro m e; cases m with
        | nil => simp at e
        | cons d u =>
          simp only [List.map_cons, List.cons.injEq] at e
          have hc : c = d := by
            apply Char.ext
            apply UInt32.toNat_inj.mp
            exact e.1
          rw [hc, ih u e.2]
    exact inj _ _ h1
  exact String.toList_inj.mp h2
theorem str_eq (a b : String) : (Str.ofString a = Str.ofString b) = (a = b) := propext ⟨str_inj, fun e => by rw [e]⟩

def kk : K → Key
  | .inl i => .inl i
  | .inr s => .inr (Str.ofString s)
theorem kk_inj {a b : K} (h : kk a = kk b) : a = b := by
  cases a <;> cases b <;> simp only [kk, Sum.inl.injEq, Sum.inr.injEq, reduceCtorEq] at h
  · rw [h]
  · rw [str_inj h]

/-- what is known beside the heap: the part that nobody writes; where the source of draws stands -/
structure Gs where
  S : Hp
  loc : Option (Addr × Addr)
def Gs.isL (g : Gs) (a : Addr) : Prop := ∃ b c, g.loc = some (b, c) ∧ (a = b ∨ a = c)
def Gs.add (g : Gs) (p : Addr) (o : HO) : Gs := { g with S := upd g.S p o }

mutual
inductive Rep (K : PySem.W.Frag) (g : Gs) : V → T → Prop
  | non : Rep K g .non .non
  | bl (b : Bool) : Rep K g (.bl b) (.bl b)
  | int (i : Int) : Rep K g (.int i) (.int i)
  | str (x : String) : Rep K g (.str (Str.ofString x)) (.str x)
  | tup {a : Addr} {xs : List V} {ts : List T} : g.S a = some (.tup xs) → Reps K g xs ts → Rep K g (.ref a) (.tup ts)
  | ptup {a : Addr} {ob : Obj} {xs : List V} {ts : List T} : g.S a = some (.frz ob (.tup xs)) → ob.dict = none → Reps K g xs ts → Rep K g (.ref a) (.ptup ts)
  | lst {a : Addr} {xs : List V} {ts : List T} : g.S a = some (.lst xs) → Reps K g xs ts → Rep K g (.ref a) (.lst ts)
  | dK {a : Addr} {kvs : List (Key × V)} {ts : List (Gh.K × T)} : g.S a = some (.dK kvs) → RepK K g kvs ts → Rep K g (.ref a) (.dK ts)
  | dT {a : Addr} {kvs : List (List Key × V)} {ts : List (List Gh.K × T)} : g.S a = some (.dT kvs) → RepD K g kvs ts → Rep K g (.ref a) (.dT ts)
  | rng {a : Addr} {lo hi : Int} : g.S a = some (.rng lo hi) → Rep K g (.ref a) (.rng lo hi)
  | scr {a : Addr} {ns : List Int} : SqL K g.S a (ns.map V.int) → Rep K g (.ref a) (.scr ns)
  | src {a c : Addr} : g.loc = some (a, c) → Rep K g (.ref a) .src
inductive Reps (K : PySem.W.Frag) (g : Gs) : List V → List T → Prop
  | nil : Reps K g [] []
  | cons {v : V} {vs : List V} {t : T} {ts : List T} : Rep K g v t → Reps K g vs ts → Reps K g (v :: vs) (t :: ts)
inductive RepK (K : PySem.W.Frag) (g : Gs) : List (Key × V) → List (Gh.K × T) → Prop
  | nil : RepK K g [] []
  | cons {k : Gh.K} {v : V} {vs : List (Key × V)} {t : T} {ts : List (Gh.K × T)} : Rep K g v t → RepK K g vs ts → RepK K g ((kk k, v) :: vs) ((k, t) :: ts)
inductive RepD (K : PySem.W.Frag) (g : Gs) : List (List Key × V) → List (List Gh.K × T) → Prop
  | nil : RepD K g [] []
  | cons {k : List Gh.K} {v : V} {vs : List (List Key × V)} {t : T} {ts : List (List Gh.K × T)} : Rep K g v t → RepD K g vs ts → RepD K g ((k.map kk, v) :: vs) ((k, t) :: ts)
end

/-- more is known -/
structure Le (g g' : Gs) : Prop where
  S : ∀ a o, g.S a = some o → g'.S a = some o
  loc : ∀ p, g.loc = some p → g'.loc = some p
theorem Le.refl (g : Gs) : Le g g := ⟨fun _ _ h => h, fun _ h => h⟩
theorem Le.trans {a b c : Gs} (h : Le a b) (k : Le b c) : Le a c := ⟨fun x o e => k.S x o (h.S x o e), fun p e => k.loc p (h.loc p e)⟩
theorem Le.add {g : Gs} {p : Addr} {o : HO} (h : g.S p = none) : Le g (g.add p o) := ⟨fun a u e => by
  show upd g.S p o a = some u
  rw [upd_ne (ne_of_none e h)]
  exact e, fun _ e => e⟩
theorem SqL.mono {K : PySem.W.Frag} {H H' : Hp} {a : Addr} {xs : List V} (e : ∀ b o, H b = some o → H' b = some o) (h : SqL K H a xs) : SqL K H' a xs := by
  rcases h with (h | ⟨o, h⟩) | h
  · exact .inl (.inl (e _ _ h))
  · exact .inl (.inr ⟨o, e _ _ h⟩)
  · exact .inr h

section
variable {K : PySem.W.Frag} {g g' : Gs}
mutual
theorem Rep.mono (l : Le g g') : ∀ {v : V} {t : T}, Rep K g v t → Rep K g' v t
  | _, _, .non => .non
  | _, _, .bl b => .bl b
  | _, _, .int i => .int i
  | _, _, .str x => .str x
  | _, _, .tup h r => .tup (l.S _ _ h) (Reps.mono l r)
  | _, _, .ptup h n r => .ptup (l.S _ _ h) n (Reps.mono l r)
  | _, _, .lst h r => .lst (l.S _ _ h) (Reps.mono l r)
  | _, _, .dK h r => .dK (l.S _ _ h) (RepK.mono l r)
  | _, _, .dT h r => .dT (l.S _ _ h) (RepD.mono l r)
  | _, _, .rng h => .rng (l.S _ _ h)
  | _, _, .scr h => .scr (SqL.mono l.S h)
  | _, _, .src h => .src (l.loc _ h)
theorem Reps.mono (l : Le g g') : ∀ {vs : List V} {ts : List T}, Reps K g vs ts → Reps K g' vs ts
  | _, _, .nil => .nil
  | _, _, .cons a b => .cons (Rep.mono l a) (Reps.mono l b)
theorem RepK.mono (l : Le g g') : ∀ {vs : List (Key × V)} {ts : List (Gh.K × T)}, RepK K g vs ts → RepK K g' vs ts
  | _, _, .nil => .nil
  | _, _, .cons a b => .cons (Rep.mono l a) (RepK.mono l b)
theorem RepD.mono (l : Le g g') : ∀ {vs : List (List Key × V)} {ts : List (List Gh.K × T)}, RepD K g vs ts → RepD K g' vs ts
  | _, _, .nil => .nil
  | _, _, .cons a b => .cons (Rep.mono l a) (RepD.mono l b)
end
theorem Reps.length : ∀ {vs : List V} {ts : List T}, Reps K g vs ts → vs.length = ts.length
  | _, _, .nil => rfl
  | _, _, .cons _ b => by simp [Reps.length b]
theorem RepK.length : ∀ {vs : List (Key × V)} {ts : List (Gh.K × T)}, RepK K g vs ts → vs.length = ts.length
  | _, _, .nil => rfl
  | _, _, .cons _ b => by simp [RepK.length b]
theorem RepD.length : ∀ {vs : List (List Key × V)} {ts : List (List Gh.K × T)}, RepD K g vs ts → vs.length = ts.length
  | _, _, .nil => rfl
  | _, _, .cons _ b => by simp [RepD.length b]
theorem Reps.get : ∀ {vs : List V} {ts : List T} {i : Nat} {t : T}, Reps K g vs ts → ts[i]? = some t → ∃ v, vs[i]? = some v ∧ Rep K g v t
  | _, _, _, _, .nil, e => by simp at e
  | _, _, 0, _, .cons r _, e => by simp at e; subst e; exact ⟨_, rfl, r⟩
  | _, _, i + 1, _, .cons _ b, e => by
    obtain ⟨v, h1, h2⟩ := Reps.get (i := i) b (by simpa using e)
    exact ⟨v, by simpa using h1, h2⟩
theorem Reps.get' : ∀ {vs : List V} {ts : List T} {i : Nat} {v : V}, Reps K g vs ts → vs[i]? = some v → ∃ t, ts[i]? = some t ∧ Rep K g v t
  | _, _, _, _, .nil, e => by simp at e
  | _, _, 0, _, .cons r _, e => by simp at e; subst e; exact ⟨_, rfl, r⟩
  | _, _, i + 1, _, .cons _ b, e => by
    obtain ⟨t, h1, h2⟩ := Reps.get' (i := i) b (by simpa using e)
    exact ⟨t, by simpa using h1, h2⟩
theorem Reps.append : ∀ {vs ws : List V} {ts us : List T}, Reps K g vs ts → Reps K g ws us → Reps K g (vs ++ ws) (ts ++ us)
  | _, _, _, _, .nil, s => s
  | _, _, _, _, .cons r b, s => .cons r (Reps.append b s)
theorem Reps.take : ∀ {vs : List V} {ts : List T} (n : Nat), Reps K g vs ts → Reps K g (vs.take n) (ts.take n)
  | _, _, 0, _ => .nil
  | _, _, _ + 1, .nil => .nil
  | _, _, n + 1, .cons r b => .cons r (Reps.take n b)
theorem Reps.drop : ∀ {vs : List V} {ts : List T} (n : Nat), Reps K g vs ts → Reps K g (vs.drop n) (ts.drop n)
  | _, _, 0, r => r
  | _, _, _ + 1, .nil => .nil
  | _, _, n + 1, .cons _ b => Reps.drop n b
theorem Reps.set : ∀ {vs : List V} {ts : List T} {v : V} {t : T} (n : Nat), Rep K g v t → Reps K g vs ts → Reps K g (vs.set n v) (ts.set n t)
  | _, _, _, _, _, _, .nil => .nil
  | _, _, _, _, 0, q, .cons _ b => .cons q b
  | _, _, _, _, n + 1, q, .cons r b => .cons r (Reps.set n q b)
theorem Reps.eraseIdx : ∀ {vs : List V} {ts : List T} (n : Nat), Reps K g vs ts → Reps K g (vs.eraseIdx n) (ts.eraseIdx n)
  | _, _, _, .nil => .nil
  | _, _, 0, .cons _ b => b
  | _, _, n + 1, .cons r b => .cons r (Reps.eraseIdx n b)
theorem Reps.reverse {vs : List V} {ts : List T} (h : Reps K g vs ts) : Reps K g vs.reverse ts.reverse := by
  induction vs generalizing ts with
  | nil => cases h; exact .nil
  | cons v vs ih =>
    cases h with
    | cons r b => rw [List.reverse_cons, List.reverse_cons]; exact (ih b).append (.cons r .nil)
theorem Reps.rep {vs : List V} {ts : List T} (h : Reps K g vs ts) : ∀ k : Nat, Reps K g (List.replicate k vs).flatten (List.replicate k ts).flatten
  | 0 => .nil
  | k + 1 => by rw [List.replicate_succ, List.replicate_succ, List.flatten_cons, List.flatten_cons]; exact h.append (Reps.rep h k)
theorem Reps.snoc {vs : List V} {ts : List T} {v : V} {t : T} (h : Reps K g vs ts) (r : Rep K g v t) : Reps K g (vs ++ [v]) (ts ++ [t]) := h.append (.cons r .nil)
theorem Reps.ints : ∀ (ns : List Int), Reps K g (ns.map V.int) (ns.map T.int)
  | [] => .nil
  | n :: r => .cons (.int n) (Reps.ints r)
theorem Reps.intsOf : ∀ {vs : List V} {ts : List T} {ns : List Int}, Reps K g vs ts → Gh.intsOf ts = some ns → vs = ns.map V.int
  | _, _, _, .nil, e => by cases e; rfl
  | _, _, _, .cons r b, e => by
    cases r with
    | int i =>
      simp only [Gh.intsOf, Option.map_eq_some_iff] at e
      obtain ⟨ms, h1, rfl⟩ := e
      rw [List.map_cons, Reps.intsOf b h1]
    | _ => simp [Gh.intsOf] at e
theorem Reps.blsOf : ∀ {vs : List V} {ts : List T} {ns : List Bool}, Reps K g vs ts → Gh.blsOf ts = some ns → vs = ns.map V.bl
  | _, _, _, .nil, e => by cases e; rfl
  | _, _, _, .cons r b, e => by
    cases r with
    | bl i =>
      simp only [Gh.blsOf, Option.map_eq_some_iff] at e
      obtain ⟨ms, h1, rfl⟩ := e
      rw [List.map_cons, Reps.blsOf b h1]
    | _ => simp [Gh.blsOf] at e
end

/-! ### keys -/
section
variable {K : PySem.W.Frag} {g : Gs}
theorem keyK_rep {v : V} {t : T} {k : Gh.K} (r : Rep K g v t) (e : keyK t = some k) : v = kV (kk k) := by
  cases r <;> simp only [keyK, Option.some.injEq, reduceCtorEq] at e <;> subst e <;> rfl
theorem keyKs_rep : ∀ {vs : List V} {ts : List T} {ks : List Gh.K}, Reps K g vs ts → keyKs ts = some ks → vs = (ks.map kk).map kV
  | _, _, _, .nil, e => by cases e; rfl
  | _, _, _, .cons r b, e => by
    simp only [keyKs] at e
    split at e
    · cases e
    · rename_i k hk
      simp only [Option.map_eq_some_iff] at e
      obtain ⟨ms, h1, rfl⟩ := e
      rw [List.map_cons, List.map_cons, keyK_rep r hk, keyKs_rep b h1]
theorem rep_ofK (k : Gh.K) : Rep K g (kV (kk k)) (ofK k) := by
  cases k with
  | inl i => exact .int i
  | inr s => exact .str s
theorem look_rep : ∀ {kvs : List (Key × V)} {ts : List (Gh.K × T)} (k : Gh.K), RepK K g kvs ts →
    (∀ t, look ts k = some t → ∃ v, valV kvs (kk k) = some v ∧ Rep K g v t) ∧ (look ts k = none → valV kvs (kk k) = none)
  | _, _, k, .nil => ⟨fun t e => by simp [look] at e, fun _ => rfl⟩
  | _, _, k, .cons (k := j) (v := v) (t := t) r b => by
    obtain ⟨h1, h2⟩ := look_rep k b
    by_cases e : j = k
    · subst e
      refine ⟨fun u hu => ⟨v, valV_pos rfl, ?_⟩, fun hu => ?_⟩
      · have : u = t := by simpa [look] using hu.symm
        rw [this]; exact r
      · simp [look] at hu
    · have e' : ¬ kk j = kk k := fun q => e (kk_inj q)
      have e3 : ∀ r' : List (Gh.K × T), look ((j, t) :: r') k = look r' k := fun r' => by simp [look, List.find?_cons, e]
      rw [e3, valV_neg e']
      exact ⟨h1, h2⟩
theorem put_rep {kvs : List (Key × V)} {ts : List (Gh.K × T)} (k : Gh.K) {v : V} {t : T} (h : RepK K g kvs ts) (r : Rep K g v t) : RepK K g (putK kvs (kk k) v) (put ts k t) := by
  have hany : ∀ {kvs : List (Key × V)} {ts : List (Gh.K × T)}, RepK K g kvs ts → (kvs.any fun kv => decide (kv.1 = kk k)) = ts.any fun kv => decide (kv.1 = k) := by
    intro kvs ts h
    induction ts generalizing kvs with
    | nil => cases h; rfl
    | cons p ts ih =>
      cases h with
      | cons r b =>
        rename_i j _ _ _
        rw [List.any_cons, List.any_cons, ih b]
        by_cases e : j = k
        · subst e; simp
        · have e' : ¬ kk j = kk k := fun q => e (kk_inj q)
          simp [e, e']
  have hmap : ∀ {kvs : List (Key × V)} {ts : List (Gh.K × T)}, RepK K g kvs ts → RepK K g (kvs.map fun kv => if kv.1 = kk k then (kv.1, v) else kv) (ts.map fun kv => if kv.1 = k then (kv.1, t) else kv) := by
    intro kvs ts h
    induction ts generalizing kvs with
    | nil => cases h; exact .nil
    | cons p ts ih =>
      cases h with
      | cons r' b =>
        rename_i j _ _ _
        rw [List.map_cons, List.map_cons]
        by_cases e : j = k
        · subst e; simp only [if_true]; exact .cons r (ih b)
        · have e' : ¬ kk j = kk k := fun q => e (kk_inj q)
          simp only [e, e', if_false]; exact .cons r' (ih b)
  have happ : ∀ {kvs : List (Key × V)} {ts : List (Gh.K × T)}, RepK K g kvs ts → RepK K g (kvs ++ [(kk k, v)]) (ts ++ [(k, t)]) := by
    intro kvs ts h
    induction ts generalizing kvs with
    | nil => cases h; exact .cons r .nil
    | cons p ts ih => cases h with
      | cons r' b => exact .cons r' (ih b)
  unfold putK put
  rw [hany h]
  split
  · exact hmap h
  · exact happ h
theorem merge_rep : ∀ {more : List (Key × V)} {ms : List (Gh.K × T)} {kvs : List (Key × V)} {ts : List (Gh.K × T)}, RepK K g more ms → RepK K g kvs ts → RepK K g (mergeK kvs more) (merge ts ms) := by
  intro more ms
  induction ms generalizing more with
  | nil => intro kvs ts h q; cases h; exact q
  | cons p ms ih =>
    intro kvs ts h q
    cases h with
    | @cons k _ _ _ _ r b => have z := ih b (put_rep k q r); exact z
theorem kks_inj : ∀ {a b : List Gh.K}, a.map kk = b.map kk → a = b
  | [], [], _ => rfl
  | [], _ :: _, h => by simp at h
  | _ :: _, [], h => by simp at h
  | x :: xs, y :: ys, h => by
    simp only [List.map_cons, List.cons.injEq] at h
    rw [kk_inj h.1, kks_inj h.2]
theorem look_repD : ∀ {kvs : List (List Key × V)} {ts : List (List Gh.K × T)} (k : List Gh.K), RepD K g kvs ts →
    (∀ t, look ts k = some t → ∃ v, valV kvs (k.map kk) = some v ∧ Rep K g v t) ∧ (look ts k = none → valV kvs (k.map kk) = none)
  | _, _, k, .nil => ⟨fun t e => by simp [look] at e, fun _ => rfl⟩
  | _, _, k, .cons (k := j) (v := v) (t := t) r b => by
    obtain ⟨h1, h2⟩ := look_repD k b
    by_cases e : j = k
    · subst e
      refine ⟨fun u hu => ⟨v, valV_pos rfl, ?_⟩, fun hu => ?_⟩
      · have : u = t := by simpa [look] using hu.symm
        rw [this]; exact r
      · simp [look] at hu
    · have e' : ¬ j.map kk = k.map kk := fun q => e (kks_inj q)
      have e3 : ∀ r' : List (List Gh.K × T), look ((j, t) :: r') k = look r' k := fun r' => by simp [look, List.find?_cons, e]
      rw [e3, valV_neg e']
      exact ⟨h1, h2⟩
theorem put_repD {kvs : List (List Key × V)} {ts : List (List Gh.K × T)} (k : List Gh.K) {v : V} {t : T} (h : RepD K g kvs ts) (r : Rep K g v t) : RepD K g (putK kvs (k.map kk) v) (put ts k t) := by
  have hany : ∀ {kvs : List (List Key × V)} {ts : List (List Gh.K × T)}, RepD K g kvs ts → (kvs.any fun kv => decide (kv.1 = k.map kk)) = ts.any fun kv => decide (kv.1 = k) := by
    intro kvs ts h
    induction ts generalizing kvs with
    | nil => cases h; rfl
    | cons p ts ih =>
      cases h with
      | cons r b =>
        rename_i j _ _ _
        rw [List.any_cons, List.any_cons, ih b]
        by_cases e : j = k
        · subst e; simp
        · have e' : ¬ j.map kk = k.map kk := fun q => e (kks_inj q)
          simp [e, e']
  have hmap : ∀ {kvs : List (List Key × V)} {ts : List (List Gh.K × T)}, RepD K g kvs ts → RepD K g (kvs.map fun kv => if kv.1 = k.map kk then (kv.1, v) else kv) (ts.map fun kv => if kv.1 = k then (kv.1, t) else kv) := by
    intro kvs ts h
    induction ts generalizing kvs with
    | nil => cases h; exact .nil
    | cons p ts ih =>
      cases h with
      | cons r' b =>
        rename_i j _ _ _
        rw [List.map_cons, List.map_cons]
        by_cases e : j = k
        · subst e; simp only [if_true]; exact .cons r (ih b)
        · have e' : ¬ j.map kk = k.map kk := fun q => e (kks_inj q)
          simp only [e, e', if_false]; exact .cons r' (ih b)
  have happ : ∀ {kvs : List (List Key × V)} {ts : List (List Gh.K × T)}, RepD K g kvs ts → RepD K g (kvs ++ [(k.map kk, v)]) (ts ++ [(k, t)]) := by
    intro kvs ts h
    induction ts generalizing kvs with
    | nil => cases h; exact .cons r .nil
    | cons p ts ih => cases h with
      | cons r' b => exact .cons r' (ih b)
  unfold putK put
  rw [hany h]
  split
  · exact hmap h
  · exact happ h
end

/-! ### the state -/
def srcKvs (c : Addr) (st : Gh.St) : List (Key × V) := [(.inr "cells", .ref c), (.inr "left", .int st.left), (.inr "mixed", .int st.mixed), (.inr "turn", .int st.turn)]
def SrcR (H : Hp) : Option (Addr × Addr) → Src → Prop
  | none, none => True
  | some (a, c), some st => H a = some (.dK (srcKvs c st)) ∧ H c = some (.lst (st.cells.reverse.map V.int)) ∧ st.cells.length ≤ 1000
  | _, _ => False

/-- a list's or dict's own object -/
inductive Top (K : PySem.W.Frag) (g : Gs) : HO → T → Prop
  | lst {xs : List V} {ts : List T} : Reps K g xs ts → Top K g (.lst xs) (.lst ts)
  | dK {kvs : List (Key × V)} {ts : List (Gh.K × T)} : RepK K g kvs ts → Top K g (.dK kvs) (.dK ts)
  | dT {kvs : List (List Key × V)} {ts : List (List Gh.K × T)} : RepD K g kvs ts → Top K g (.dT kvs) (.dT ts)
theorem Top.mono {K : PySem.W.Frag} {g g' : Gs} (l : Le g g') {o : HO} {t : T} : Top K g o t → Top K g' o t
  | .lst r => .lst (r.mono l)
  | .dK r => .dK (r.mono l)
  | .dT r => .dT (r.mono l)
theorem Top.rep {K : PySem.W.Frag} {g : Gs} {o : HO} {t : T} {a : Addr} (h : Top K g o t) (e : g.S a = some o) : Rep K g (.ref a) t := by
  cases h with
  | lst r => exact .lst e r
  | dK r => exact .dK e r
  | dT r => exact .dT e r
theorem Top.cont {K : PySem.W.Frag} {g : Gs} {o : HO} {t : T} (h : Top K g o t) : isCont t = true := by cases h <;> rfl

abbrev Own := Addr → Option Nat
/-- lists of one's own, one an address -/
inductive Lots (K : PySem.W.Frag) (g : Gs) (own : Own) (H : Hp) (i : Nat) : List Addr → List (List T) → Prop
  | nil : Lots K g own H i [] []
  | cons {b : Addr} {bs : List Addr} {xs : List V} {ts : List T} {r : List (List T)} : own b = some i → H b = some (.lst xs) → Reps K g xs ts → Lots K g own H i bs r → Lots K g own H i (b :: bs) (ts :: r)
inductive SlotR (K : PySem.W.Frag) (g : Gs) (own : Own) (H : Hp) (i : Nat) : Option V → Slot → Prop
  | un {o : Option V} : SlotR K g own H i o .un
  | sh {v : V} {t : T} : Rep K g v t → SlotR K g own H i (some v) (.sh t)
  | ow {a : Addr} {o : HO} {t : T} : own a = some i → H a = some o → Top K g o t → SlotR K g own H i (some (.ref a)) (.ow t)
  | lk {o : Option V} {t : T} : SlotR K g own H i o (.lk t)
  | ow2 {a : Addr} {bs : List Addr} {xss : List (List T)} : own a = some i → H a = some (.lst (bs.map V.ref)) → (a :: bs).Nodup → Lots K g own H i bs xss → SlotR K g own H i (some (.ref a)) (.ow2 xss)

def noTup : HO → Prop
  | .tup _ => False
  | _ => True
/-- what is to stay as it is; of that, what nobody may come to know -/
structure Fm where
  H0 : Hp
  P : Addr → Prop
  lkS : Nat → Option Addr
structure R (K : PySem.W.Frag) (H0 : Fm) (g : Gs) (own : Own) (env : List Slot) (s : Src) (σ : L2.St) (H : Hp) : Prop where
  len : σ.length = env.length
  sub : ∀ a o, g.S a = some o → H a = some o
  keep : ∀ a o, H0.H0 a = some o → ¬ g.isL a → H a = some o
  prot : ∀ a, H0.P a → g.S a = none ∧ ∃ o, H0.H0 a = some o ∧ noTup o
  prL : ∀ a, H0.P a → ¬ g.isL a
  src : SrcR H g.loc s
  locS : ∀ a, g.isL a → g.S a = none ∧ own a = none
  own_ : ∀ a i, own a = some i → g.S a = none ∧ H0.H0 a = none ∧ ∃ o, H a = some o ∧ noTup o
  slot : ∀ (i : Nat) (v : Option V) (x : Slot), σ[i]? = some v → env[i]? = some x → SlotR K g own H i v x
  lkd : ∀ (i : Nat) (t : T), env[i]? = some (.lk t) → ∃ a u kvs ts, H0.lkS i = some a ∧ σ[i]? = some (some (.ref a)) ∧ t = .dK ts ∧ H0.P a ∧ H0.H0 a = some (.frz u (.dK kvs)) ∧ RepK K g kvs ts

/-- what an operand is: a value that nobody changes, or what one's own slot holds -/
def ValP (K : PySem.W.Frag) (g : Gs) (own : Own) (env : List Slot) (σ : L2.St) (v : V) (t : T) : Prop :=
  Rep K g v t ∨ ∃ (i : Nat) (x : Slot), σ[i]? = some (some v) ∧ env[i]? = some x ∧ contS x = some t ∧ ∀ u, x ≠ .sh u
theorem ValP.mono {K : PySem.W.Frag} {g g' : Gs} (l : Le g g') {own : Own} {env : List Slot} {σ : L2.St} {v : V} {t : T} : ValP K g own env σ v t → ValP K g' own env σ v t
  | .inl r => .inl (r.mono l)
  | .inr h => .inr h
/-- an operand as it stands in the heap -/
inductive RepT (K : PySem.W.Frag) (g : Gs) (H : Hp) : V → T → Prop
  | non : RepT K g H .non .non
  | bl (b : Bool) : RepT K g H (.bl b) (.bl b)
  | int (i : Int) : RepT K g H (.int i) (.int i)
  | str (x : String) : RepT K g H (.str (Str.ofString x)) (.str x)
  | tup {a : Addr} {xs : List V} {ts : List T} : g.S a = some (.tup xs) → Reps K g xs ts → RepT K g H (.ref a) (.tup ts)
  | ptup {a : Addr} {ob : Obj} {xs : List V} {ts : List T} : g.S a = some (.frz ob (.tup xs)) → ob.dict = none → Reps K g xs ts → RepT K g H (.ref a) (.ptup ts)
  | lst {a : Addr} {xs : List V} {ts : List T} : H a = some (.lst xs) → Reps K g xs ts → RepT K g H (.ref a) (.lst ts)
  | dK {a : Addr} {kvs : List (Key × V)} {ts : List (Gh.K × T)} : Rd H a (.dK kvs) → RepK K g kvs ts → RepT K g H (.ref a) (.dK ts)
  | dT {a : Addr} {kvs : List (List Key × V)} {ts : List (List Gh.K × T)} : Rd H a (.dT kvs) → RepD K g kvs ts → RepT K g H (.ref a) (.dT ts)
  | rng {a : Addr} {lo hi : Int} : g.S a = some (.rng lo hi) → RepT K g H (.ref a) (.rng lo hi)
  | scr {a : Addr} {ns : List Int} : SqL K H a (ns.map V.int) → RepT K g H (.ref a) (.scr ns)
  | src {a c : Addr} : g.loc = some (a, c) → RepT K g H (.ref a) .src
theorem Rep.top {K : PySem.W.Frag} {g : Gs} {H : Hp} (sub : ∀ a o, g.S a = some o → H a = some o) {v : V} {t : T} : Rep K g v t → RepT K g H v t
  | .non => .non
  | .bl b => .bl b
  | .int i => .int i
  | .str x => .str x
  | .tup h r => .tup h r
  | .ptup h n r => .ptup h n r
  | .lst h r => .lst (sub _ _ h) r
  | .dK h r => .dK (.inl (sub _ _ h)) r
  | .dT h r => .dT (.inl (sub _ _ h)) r
  | .rng h => .rng h
  | .scr h => .scr (SqL.mono sub h)
  | .src h => .src h
section
variable {K : PySem.W.Frag} {H0 : Fm} {g : Gs} {own : Own} {env : List Slot} {s : Src} {σ : L2.St} {H : Hp}
/-- what a slot holds may be read: lists as they are, a dict also while it is walked -/
theorem R.val (r : R K H0 g own env s σ H) {v : V} {t : T} (h : ValP K g own env σ v t) : RepT K g H v t := by
  rcases h with h | ⟨i, x, h1, h2, h3, h4⟩
  · exact h.top r.sub
  · have q := r.slot i _ _ h1 h2
    cases q with
    | un => cases h3
    | sh _ => exact absurd rfl (h4 _)
    | ow e1 e2 e3 =>
      cases h3
      cases e3 with
      | lst z => exact .lst e2 z
      | dK z => exact .dK (.inl e2) z
      | dT z => exact .dT (.inl e2) z
    | lk =>
      cases h3
      obtain ⟨a, u, kvs, ts, e1, e2, rfl, e3, e4, e5⟩ := r.lkd i _ h2
      rw [h1] at e2
      cases e2
      exact .dK (.inr ⟨_, r.keep _ _ e4 (r.prL _ e3)⟩) e5
    | ow2 _ _ _ _ => cases h3
theorem R.gS (r : R K H0 g own env s σ H) {p : Addr} (hp : H p = none) : g.S p = none := by
  cases q : g.S p with
  | none => rfl
  | some u => rw [r.sub p u q] at hp; cases hp
theorem R.gO (r : R K H0 g own env s σ H) {p : Addr} (hp : H p = none) : own p = none := by
  cases q : own p with
  | none => rfl
  | some i =>
    obtain ⟨_, _, o, e, _⟩ := r.own_ p i q
    rw [e] at hp; cases hp
theorem R.gL (r : R K H0 g own env s σ H) {p : Addr} (hp : H p = none) : ¬ g.isL p := by
  rintro ⟨b, c, e, h⟩
  have q := r.src
  rw [e] at q
  cases s with
  | none => cases q
  | some st =>
    rcases h with h | h
    · rw [h, q.1] at hp; cases hp
    · rw [h, q.2.1] at hp; cases hp
theorem R.g0 (r : R K H0 g own env s σ H) {p : Addr} (hp : H p = none) : H0.H0 p = none := by
  cases q : H0.H0 p with
  | none => rfl
  | some u => rw [r.keep p u q (r.gL hp)] at hp; cases hp
theorem R.gP (r : R K H0 g own env s σ H) {p : Addr} (hp : H p = none) : ¬ H0.P p := fun z => by
  obtain ⟨_, o, e, _⟩ := r.prot p z
  rw [r.g0 hp] at e; cases e
/-- the heap has more, and what is known stays: nothing that stood is changed -/
theorem R.grow (r : R K H0 g own env s σ H) {H' : Hp} (up : ∀ a u, H a = some u → H' a = some u) : R K H0 g own env s σ H' := by
  refine ⟨r.len, fun a u e => up a u (r.sub a u e), fun a u e nl => up a u (r.keep a u e nl), r.prot, r.prL, ?_, r.locS, fun a i e => ?_, fun i v x e1 e2 => ?_, r.lkd⟩
  · have q := r.src
    unfold SrcR at q ⊢
    split at q
    · trivial
    · exact ⟨up _ _ q.1, up _ _ q.2.1, q.2.2⟩
    · cases q
  · obtain ⟨h1, h2, o, h3, h4⟩ := r.own_ a i e
    exact ⟨h1, h2, o, up a o h3, h4⟩
  · have q := r.slot i v x e1 e2
    cases q with
    | un => exact .un
    | sh z => exact .sh z
    | ow f1 f2 f3 => exact .ow f1 (up _ _ f2) f3
    | lk => exact .lk
    | ow2 f1 f2 f3 f4 =>
      refine .ow2 f1 (up _ _ f2) f3 ?_
      clear f2 f3 e2
      induction f4 with
      | nil => exact .nil
      | cons a b c _ ih => exact .cons a (up _ _ b) c ih
/-- a new object -/
theorem R.alloc (r : R K H0 g own env s σ H) {p : Addr} {o : HO} (hp : H p = none) : R K H0 g own env s σ (upd H p o) := r.grow fun a u e => by rw [upd_ne (ne_of_none e hp)]; exact e
theorem Lots.mono {g' : Gs} (l : Le g g') {i : Nat} {bs : List Addr} {xss : List (List T)} (h : Lots K g own H i bs xss) : Lots K g' own H i bs xss := by
  induction h with
  | nil => exact .nil
  | cons a b c _ ih => exact .cons a b (c.mono l) ih
theorem SlotR.mono {g' : Gs} (l : Le g g') {i : Nat} {v : Option V} {x : Slot} (h : SlotR K g own H i v x) : SlotR K g' own H i v x := by
  cases h with
  | un => exact .un
  | sh z => exact .sh (z.mono l)
  | ow f1 f2 f3 => exact .ow f1 f2 (f3.mono l)
  | lk => exact .lk
  | ow2 f1 f2 f3 f4 => exact .ow2 f1 f2 f3 (f4.mono l)
/-- an object that nobody writes from now on -/
theorem R.share (r : R K H0 g own env s σ H) {p : Addr} {o : HO} (hp : H p = some o) (gp : g.S p = none) (op : own p = none) (lp : ¬ g.isL p) (pp : ¬ H0.P p) : R K H0 (g.add p o) own env s σ H := by
  have l : Le g (g.add p o) := Le.add gp
  refine ⟨r.len, fun a u e => ?_, fun a u e nl => r.keep a u e nl, fun a ha => ⟨?_, (r.prot a ha).2⟩, r.prL, r.src, fun a ha => ?_, fun a i e => ?_, fun i v x e1 e2 => (r.slot i v x e1 e2).mono l, fun i t e => (by
      obtain ⟨a, u, kvs, ts, h1, h2, h3, h4, h5, h6⟩ := r.lkd i t e
      exact ⟨a, u, kvs, ts, h1, h2, h3, h4, h5, h6.mono l⟩)⟩
  · have e' : upd g.S p o a = some u := e
    by_cases h : a = p
    · subst h; rw [upd_same] at e'; rw [hp]; exact e'
    · rw [upd_ne h] at e'; exact r.sub a u e'
  · show upd g.S p o a = none
    rw [upd_ne (fun z => pp (by rw [← z]; exact ha))]
    exact (r.prot a ha).1
  · obtain ⟨h1, h2⟩ := r.locS a ha
    refine ⟨?_, h2⟩
    show upd g.S p o a = none
    rw [upd_ne (fun z => lp (by rw [← z]; exact ha))]
    exact h1
  · obtain ⟨h1, h2, h3⟩ := r.own_ a i e
    refine ⟨?_, h2, h3⟩
    show upd g.S p o a = none
    rw [upd_ne (fun z => by rw [z, op] at e; cases e)]
    exact h1
theorem R.new (r : R K H0 g own env s σ H) {p : Addr} {o : HO} (hp : H p = none) : R K H0 (g.add p o) own env s σ (upd H p o) :=
  (r.alloc hp).share upd_same (r.gS hp) (r.gO hp) (r.gL hp) (r.gP hp)
/-- the frame may be wished to be more: p stays as it is, unknown -/
def Fm.hold (F : Fm) (p : Addr) (o : HO) : Fm := ⟨upd F.H0 p o, fun a => a = p ∨ F.P a, F.lkS⟩
theorem R.hold (r : R K H0 g own env s σ H) {p : Addr} {o : HO} (h0 : H0.H0 p = none) (hp : H p = some o) (ho : own p = none) (gp : g.S p = none) (lp : ¬ g.isL p) (nt : noTup o) : R K (H0.hold p o) g own env s σ H := by
  refine ⟨r.len, r.sub, fun a u e nl => ?_, fun a ha => ?_, fun a ha => ?_, r.src, r.locS, fun a i e => ?_, r.slot, fun i t e => (by
      obtain ⟨a, u, kvs, ts, h1, h2, h3, h4, h5, h6⟩ := r.lkd i t e
      exact ⟨a, u, kvs, ts, h1, h2, h3, .inr h4, (by show upd H0.H0 p o a = _; rw [upd_ne (ne_of_none h5 h0)]; exact h5), h6⟩)⟩
  · have e' : upd H0.H0 p o a = some u := e
    by_cases h : a = p
    · subst h; rw [upd_same] at e'; cases e'; exact hp
    · rw [upd_ne h] at e'; exact r.keep a u e' nl
  · by_cases h : a = p
    · subst h; exact ⟨gp, o, (by show upd H0.H0 a o a = _; exact upd_same), nt⟩
    · rcases ha with z | z
      · exact absurd z h
      · obtain ⟨h1, u, h2, h3⟩ := r.prot a z
        exact ⟨h1, u, (by show upd H0.H0 p o a = _; rw [upd_ne h]; exact h2), h3⟩
  · rcases ha with z | z
    · rw [z]; exact lp
    · exact r.prL a z
  · obtain ⟨h1, h2, h3⟩ := r.own_ a i e
    refine ⟨h1, ?_, h3⟩
    have na : a ≠ p := fun z => by rw [z, ho] at e; cases e
    show upd H0.H0 p o a = none
    rw [upd_ne na]; exact h2
theorem R.unhold {p : Addr} {o : HO} (r : R K (H0.hold p o) g own env s σ H) (h0 : H0.H0 p = none) (hP : ¬ H0.P p) (nf : ∀ u w, o ≠ .frz u w := by intro _ _ z; cases z) : R K H0 g own env s σ H := by
  refine ⟨r.len, r.sub, fun a u e nl => r.keep a u ?_ nl, fun a ha => ?_, fun a ha => r.prL a (.inr ha), r.src, r.locS, fun a i e => ?_, r.slot, fun i t e => (by
      obtain ⟨a, u, kvs, ts, h1, h2, h3, h4, h5, h6⟩ := r.lkd i t e
      have h5' : upd H0.H0 p o a = some (.frz u (.dK kvs)) := h5
      have na : a ≠ p := fun z => by rw [z, upd_same] at h5'; exact nf _ _ (Option.some.inj h5')
      rw [upd_ne na] at h5'
      exact ⟨a, u, kvs, ts, h1, h2, h3, h4.resolve_left na, h5', h6⟩)⟩
  · show upd H0.H0 p o a = some u
    rw [upd_ne (ne_of_none e h0)]; exact e
  · obtain ⟨h1, u, h2, h3⟩ := r.prot a (.inr ha)
    have h2' : upd H0.H0 p o a = some u := h2
    refine ⟨h1, ?_⟩
    by_cases h : a = p
    · subst h
      exact absurd ha hP
    · rw [upd_ne h] at h2'; exact ⟨u, h2', h3⟩
  · obtain ⟨h1, h2, h3⟩ := r.own_ a i e
    have h2' : upd H0.H0 p o a = none := h2
    refine ⟨h1, ?_, h3⟩
    by_cases h : a = p
    · subst h; rw [upd_same] at h2'; cases h2'
    · rw [upd_ne h] at h2'; exact h2'
/-- a tuple that stands may be known -/
theorem R.know (r : R K H0 g own env s σ H) {p : Addr} {xs : List V} (hp : H p = some (.tup xs)) : ∃ g', Le g g' ∧ R K H0 g' own env s σ H ∧ g'.S p = some (.tup xs) := by
  cases q : g.S p with
  | some o =>
    have := r.sub p o q
    rw [hp] at this; cases this
    exact ⟨g, Le.refl g, r, q⟩
  | none =>
    have op : own p = none := by
      cases z : own p with
      | none => rfl
      | some i =>
        obtain ⟨_, _, o, e, n⟩ := r.own_ p i z
        rw [hp] at e; cases e; exact n.elim
    have lp : ¬ g.isL p := by
      rintro ⟨b, c, e, h⟩
      have q' := r.src
      rw [e] at q'
      cases s with
      | none => cases q'
      | some st =>
        rcases h with h | h
        · rw [h, q'.1] at hp; cases hp
        · rw [h, q'.2.1] at hp; cases hp
    have pp : ¬ H0.P p := fun z => by
      obtain ⟨_, o, e, n⟩ := r.prot p z
      rw [r.keep p o e lp] at hp
      cases hp
      exact n
    exact ⟨_, Le.add q, r.share hp q op lp pp, by show upd g.S p _ p = _; exact upd_same⟩
/-! ### what a term comes to -/
/-- a value that nobody changes; or a list or dict just made, that nobody else knows -/
def FrV (K : PySem.W.Frag) (g : Gs) (own : Own) (H0 : Fm) (H : Hp) (v : V) (t : T) : Prop :=
  (isCont t = false ∧ Rep K g v t) ∨ ∃ p o, v = .ref p ∧ H p = some o ∧ Top K g o t ∧ g.S p = none ∧ own p = none ∧ H0.H0 p = none ∧ ¬ g.isL p
def PostF (K : PySem.W.Frag) (H0 : Fm) (own : Own) (env : List Slot) (s : Src) (σ : L2.St) (t : T) (Q : VK) (g : Gs) : Prop :=
  ∀ g' v H', Le g g' → R K H0 g' own env s σ H' → FrV K g' own H0 H' v t → Q v H'
def PostV (K : PySem.W.Frag) (H0 : Fm) (own : Own) (env : List Slot) (s : Src) (σ : L2.St) (t : T) (Q : VK) (g : Gs) : Prop :=
  ∀ g' v H', Le g g' → R K H0 g' own env s σ H' → Rep K g' v t → Q v H'
theorem PostF.of {t : T} {Q : VK} (h : PostV K H0 own env s σ t Q g) : PostF K H0 own env s σ t Q g := fun g' v H' l r f => by
  rcases f with ⟨_, f⟩ | ⟨p, o, rfl, f1, f2, f3, f4, f5, f6⟩
  · exact h g' v H' l r f
  · exact h _ _ H' (l.trans (Le.add f3)) (r.share f1 f3 f4 f6 (fun z => by obtain ⟨_, o', e, _⟩ := r.prot p z; rw [f5] at e; cases e)) ((f2.mono (Le.add f3)).rep (by show upd g'.S p o p = some o; exact upd_same))
/-- a scalar is handed on -/
theorem PostF.val {t : T} {Q : VK} (h : PostF K H0 own env s σ t Q g) (r : R K H0 g own env s σ H) {v : V} (hv : Rep K g v t) (hc : isCont t = false) : Q v H := h g v H (Le.refl g) r (.inl ⟨hc, hv⟩)
/-- a new list or dict -/
theorem PostF.made {t : T} {Q : VK} (h : PostF K H0 own env s σ t Q g) (r : R K H0 g own env s σ H) {p : Addr} {o : HO} (hp : H p = none) (ht : Top K g o t) : Q (.ref p) (upd H p o) :=
  h g _ _ (Le.refl g) (r.alloc hp) (.inr ⟨p, o, rfl, upd_same, ht, r.gS hp, r.gO hp, r.g0 hp, r.gL hp⟩)
/-- a new tuple -/
theorem PostF.tup {ts : List T} {Q : VK} (h : PostF K H0 own env s σ (.tup ts) Q g) (r : R K H0 g own env s σ H) {p : Addr} {xs : List V} (hp : H p = none) (ht : Reps K g xs ts) : Q (.ref p) (upd H p (.tup xs)) :=
  h (g.add p (.tup xs)) _ _ (Le.add (r.gS hp)) (r.new hp) (.inl ⟨rfl, .tup (show upd g.S p _ p = _ from upd_same) (ht.mono (Le.add (r.gS hp)))⟩)
end
end Gh
set_option linter.all false
set_option maxRecDepth 100000
set_option maxHeartbeats 1000000
namespace Gh
open PySem PySem.Spec PyProof.Rows L2

theorem line_eq : sizeLine = line := by rw [sizeLine_eq]; rfl

/-! ### data -/
mutual
def toD : T → PyData
  | .bl b => .bool b
  | .int i => .int i
  | .str x => .str (Str.ofString x)
  | .tup xs => .tuple (toDs xs)
  | .ptup xs => .tuple (toDs xs)
  | .lst xs => .list (toDs xs)
  | _ => .none
def toDs : List T → List PyData
  | [] => []
  | x :: xs => toD x :: toDs xs
end
theorem strOk_of (x : String) : PySem.PyData.strOk (Str.ofString x) = true := by
  rw [Str.ofString_eq_toList]
  unfold PySem.PyData.strOk
  simp only [Array.all_eq_true', List.mem_toArray, List.mem_map, decide_eq_true_eq]
  rintro n ⟨c, _, rfl⟩
  have h := c.valid
  simp only [UInt32.isValidChar, Nat.isValidChar] at h
  have : c.toNat = c.val.toNat := rfl
  omega
mutual
theorem lay_of : ∀ (t : T), flat t = true → (toD t).canLay0 = true
  | .non, _ => rfl
  | .bl _, _ => rfl
  | .int _, _ => rfl
  | .str x, _ => strOk_of x
  | .tup xs, h => by show PyData.canLayAll0 (toDs xs) = true; exact lays_of xs h
  | .ptup xs, h => by show PyData.canLayAll0 (toDs xs) = true; exact lays_of xs h
  | .lst xs, h => by show PyData.canLayAll0 (toDs xs) = true; exact lays_of xs h
  | .dK _, h => by cases h
  | .dT _, h => by cases h
  | .rng _ _, h => by cases h
  | .scr _, h => by cases h
  | .src, h => by cases h
theorem lays_of : ∀ (ts : List T), flats ts = true → PyData.canLayAll0 (toDs ts) = true
  | [], _ => rfl
  | x :: xs, h => by
    have h' : (flat x && flats xs) = true := h
    rw [Bool.and_eq_true] at h'
    show ((toD x).canLay0 && PyData.canLayAll0 (toDs xs)) = true
    rw [lay_of x h'.1, lays_of xs h'.2]; rfl
end
mutual
theorem depth_of : ∀ (t : T), flat t = true → (toD t).depth = depth t
  | .non, _ => rfl
  | .bl _, _ => rfl
  | .int _, _ => rfl
  | .str x, _ => rfl
  | .tup xs, h => by show PyData.depthAll (toDs xs) + 1 = depths xs + 1; rw [depths_of xs h]
  | .ptup xs, h => by show PyData.depthAll (toDs xs) + 1 = depths xs + 1; rw [depths_of xs h]
  | .lst xs, h => by show PyData.depthAll (toDs xs) + 1 = depths xs + 1; rw [depths_of xs h]
  | .dK _, h => by cases h
  | .dT _, h => by cases h
  | .rng _ _, h => by cases h
  | .scr _, h => by cases h
  | .src, h => by cases h
theorem depths_of : ∀ (ts : List T), flats ts = true → PyData.depthAll (toDs ts) = depths ts
  | [], _ => rfl
  | x :: xs, h => by
    have h' : (flat x && flats xs) = true := h
    rw [Bool.and_eq_true] at h'
    show max (toD x).depth (PyData.depthAll (toDs xs)) = max (depth x) (depths xs)
    rw [depth_of x h'.1, depths_of xs h'.2]
end
theorem shaped_of {t : T} (h : data t = true) : SeqAt.shaped (toD t) = true := by
  unfold data at h
  rw [Bool.and_eq_true] at h
  unfold SeqAt.shaped
  rw [lay_of t h.1, depth_of t h.1]
  have := of_decide_eq_true h.2
  simp; omega
mutual
theorem eqv_of : ∀ (a b : T), flat a = true → flat b = true → PyData.eqv (toD a) (toD b) = eqT a b
  | .non, b, _, hb => by cases b <;> first | rfl | cases hb
  | .bl a, b, _, hb => by cases b <;> first | rfl | cases hb
  | .int i, b, _, hb => by
    cases b <;> first | rfl | cases hb
  | .str x, b, _, hb => by
    cases b <;> first | rfl | cases hb | skip
    rename_i y
    show (Str.ofString x == Str.ofString y) = decide (x = y)
    by_cases e : x = y
    · subst e; simp
    · rw [decide_eq_false e, beq_eq_false_iff_ne]; exact fun q => e (str_inj q)
  | .tup xs, b, ha, hb => by
    cases b with
    | tup ys => exact eqvs_of xs ys ha hb
    | ptup ys => exact eqvs_of xs ys ha hb
    | _ => first | rfl | cases hb
  | .ptup xs, b, ha, hb => by
    cases b with
    | tup ys => exact eqvs_of xs ys ha hb
    | ptup ys => exact eqvs_of xs ys ha hb
    | _ => first | rfl | cases hb
  | .lst xs, b, ha, hb => by
    cases b <;> first | rfl | cases hb | skip
    rename_i ys
    exact eqvs_of xs ys ha hb
  | .dK _, _, h, _ => by cases h
  | .dT _, _, h, _ => by cases h
  | .rng _ _, _, h, _ => by cases h
  | .scr _, _, h, _ => by cases h
  | .src, _, h, _ => by cases h
theorem eqvs_of : ∀ (xs ys : List T), flats xs = true → flats ys = true → PyData.eqvAll (toDs xs) (toDs ys) = eqTs xs ys
  | [], [], _, _ => rfl
  | [], _ :: _, _, _ => rfl
  | _ :: _, [], _, _ => rfl
  | x :: xs, y :: ys, ha, hb => by
    have h1 : (flat x && flats xs) = true := ha
    have h2 : (flat y && flats ys) = true := hb
    rw [Bool.and_eq_true] at h1 h2
    show (PyData.eqv (toD x) (toD y) && PyData.eqvAll (toDs xs) (toDs ys)) = (eqT x y && eqTs xs ys)
    rw [eqv_of x y h1.1 h2.1, eqvs_of xs ys h1.2 h2.2]
end
section
variable {K : PySem.W.Frag} {g : Gs} {H : Hp}
mutual
theorem dp_of (sub : ∀ a o, g.S a = some o → H a = some o) : ∀ {v : V} {t : T}, Rep K g v t → flat t = true → Dp K H v (toD t)
  | _, _, .non, _ => .non
  | _, _, .bl b, _ => .bl b
  | _, _, .int i, _ => .int i
  | _, _, .str x, _ => .str _
  | _, _, .tup h r, f => .tup (SqT.of (sub _ _ h)) (dps_of sub r f)
  | _, _, .ptup h _ r, f => .tup (.inl (.inr ⟨_, sub _ _ h⟩)) (dps_of sub r f)
  | _, _, .lst h r, f => .lst (SqL.of (sub _ _ h)) (dps_of sub r f)
  | _, _, .dK _ _, f => by cases f
  | _, _, .dT _ _, f => by cases f
  | _, _, .rng _, f => by cases f
  | _, _, .scr _, f => by cases f
  | _, _, .src _, f => by cases f
theorem dps_of (sub : ∀ a o, g.S a = some o → H a = some o) : ∀ {vs : List V} {ts : List T}, Reps K g vs ts → flats ts = true → DpAll K H vs (toDs ts)
  | _, _, .nil, _ => .nil
  | _, _, .cons (t := t) (ts := ts) a b, f => by
    have f' : (flat t && flats ts) = true := f
    rw [Bool.and_eq_true] at f'
    exact .cons (dp_of sub a f'.1) (dps_of sub b f'.2)
end
theorem dpT_of (sub : ∀ a o, g.S a = some o → H a = some o) {v : V} {t : T} (r : RepT K g H v t) (f : flat t = true) : Dp K H v (toD t) := by
  cases r with
  | non => exact .non
  | bl b => exact .bl b
  | int i => exact .int i
  | str x => exact .str _
  | tup h r => exact .tup (SqT.of (sub _ _ h)) (dps_of sub r f)
  | ptup h _ r => exact .tup (.inl (.inr ⟨_, sub _ _ h⟩)) (dps_of sub r f)
  | lst h r => exact .lst (SqL.of h) (dps_of sub r f)
  | dK _ _ => cases f
  | dT _ _ => cases f
  | rng _ => cases f
  | scr _ => cases f
  | src _ => cases f
theorem any_of (x : T) (hx : flat x = true) : ∀ (ys : List T), flats ys = true → ((toDs ys).any fun z => PyData.eqv z (toD x)) = inT x ys
  | [], _ => rfl
  | y :: ys, h => by
    have h' : (flat y && flats ys) = true := h
    rw [Bool.and_eq_true] at h'
    show (PyData.eqv (toD y) (toD x) || (toDs ys).any fun z => PyData.eqv z (toD x)) = (eqT y x || inT x ys)
    rw [eqv_of y x h'.1 hx, any_of x hx ys h'.2]
end

/-! ### operations on two values -/
/-- r is met where f tells -/
def OpF (K : PySem.W.Frag) (r : R2) (f : T → T → Option T) : Prop :=
  ∀ {H0 : Fm} {g : Gs} {own : Own} {env : List Slot} {s : Src} {σ : L2.St} {H : Hp} {x y : V} {tx ty t : T} {Q : VK},
    R K H0 g own env s σ H → RepT K g H x tx → RepT K g H y ty → f tx ty = some t → PostF K H0 own env s σ t Q g → r x y H Q
section
variable {X : Cx}

def rAddA (K : PySem.W.Frag) : R2 := fun x y H Q => rI0 (fun i j => .int (i + j)) x y H Q ∨ (rCat x y H Q ∨ rCatA K x y H Q)
theorem opr_add : OpR X (binaryOp .Add) (rAddA X.K) := op_add.or (op_cat.or op_catA)
theorem R.st {K : PySem.W.Frag} {H0 : Fm} {g : Gs} {own : Own} {env : List Slot} {s : Src} {σ : L2.St} {H : Hp} (r : R K H0 g own env s σ H) {a : Addr} {xs : List V} (h : g.S a = some (.tup xs)) : SqT K H a xs := SqT.of (r.sub _ _ h)
theorem f_add {K : PySem.W.Frag} : OpF K (rAddA K) (binT .add) := by
  intro H0 g own env s σ H x y tx ty t Q r hx hy e q
  cases hx <;> cases hy <;> simp only [binT, reduceCtorEq, Option.some.injEq] at e
  · subst e
    exact .inl ⟨_, _, rfl, rfl, q.val r (.int _) rfl⟩
  · rename_i a xs ts h1 h2 b ys us h3 h4
    split at e
    · rename_i hl
      cases e
      refine .inr (.inr ⟨a, b, xs, ys, rfl, rfl, r.st h1, r.st h3, ?_, fun z => ?_, fun z z' => ?_, fun z z' p hp => q.tup r hp (h2.append h4)⟩)
      · rw [h2.length, h4.length, line_eq]; exact hl
      · subst z; cases h2; exact q.val r (.tup h3 h4) rfl
      · subst z'; cases h4; rw [List.append_nil] at q; exact q.val r (.tup h1 h2) rfl
    · cases e
  · rename_i a xs ts h1 h2 b ys us h3 h4
    split at e
    · rename_i hl
      cases e
      refine .inr (.inl ⟨a, b, xs, ys, rfl, rfl, h1, h3, ?_, fun p hp => q.made r hp (.lst (h2.append h4))⟩)
      rw [h2.length, h4.length, line_eq]; exact hl
    · cases e
theorem f_sub {K : PySem.W.Frag} : OpF K (rI0 fun i j => .int (i - j)) (binT .sub) := by
  intro H0 g own env s σ H x y tx ty t Q r hx hy e q
  cases hx <;> cases hy <;> simp only [binT, reduceCtorEq, Option.some.injEq] at e
  subst e
  exact ⟨_, _, rfl, rfl, q.val r (.int _) rfl⟩
theorem f_fdiv {K : PySem.W.Frag} : OpF K (rI CDiv fun i j => .int (i / j)) (binT .fdiv) := by
  intro H0 g own env s σ H x y tx ty t Q r hx hy e q
  cases hx <;> cases hy <;> simp only [binT, reduceCtorEq, Option.some.injEq] at e
  split at e
  · cases e
    rename_i hc
    exact ⟨_, _, rfl, rfl, hc, q.val r (.int _) rfl⟩
  · cases e
theorem f_mod {K : PySem.W.Frag} : OpF K (rI (fun _ j => 0 < j) fun i j => .int (i % j)) (binT .mod) := by
  intro H0 g own env s σ H x y tx ty t Q r hx hy e q
  cases hx <;> cases hy <;> simp only [binT, reduceCtorEq, Option.some.injEq] at e
  split at e
  · cases e
    rename_i hc
    exact ⟨_, _, rfl, rfl, hc, q.val r (.int _) rfl⟩
  · cases e
theorem f_pow {K : PySem.W.Frag} : OpF K (rI CPow fun i j => .int (i ^ j.toNat)) (binT .pow) := by
  intro H0 g own env s σ H x y tx ty t Q r hx hy e q
  cases hx <;> cases hy <;> simp only [binT, reduceCtorEq, Option.some.injEq] at e
  split at e
  · cases e
    rename_i hc
    exact ⟨_, _, rfl, rfl, ⟨hc.1, by omega, hc.2.2⟩, q.val r (.int _) rfl⟩
  · cases e

/-! comparisons -/
def CmF (K : PySem.W.Frag) (r : R2) (f : T → T → Option Bool) : Prop := OpF K r fun x y => (f x y).map T.bl
theorem f_eq {K : PySem.W.Frag} : CmF K (rEqD K) (cmpT .eq) := by
  intro H0 g own env s σ H x y tx ty t Q r hx hy e q
  simp only [cmpT, Option.map_eq_some_iff, Option.ite_none_right_eq_some, Option.some.injEq, Bool.and_eq_true] at e
  obtain ⟨b, ⟨⟨d1, d2⟩, rfl⟩, rfl⟩ := e
  have f1 := (Bool.and_eq_true_iff.mp (show (flat tx && _) = true from d1)).1
  have f2 := (Bool.and_eq_true_iff.mp (show (flat ty && _) = true from d2)).1
  refine ⟨toD tx, toD ty, dpT_of r.sub hx f1, dpT_of r.sub hy f2, shaped_of d1, shaped_of d2, ?_⟩
  rw [eqv_of _ _ f1 f2]
  exact q.val r (.bl _) rfl
theorem f_ne {K : PySem.W.Frag} : CmF K (rNeD K) (cmpT .ne) := by
  intro H0 g own env s σ H x y tx ty t Q r hx hy e q
  simp only [cmpT, Option.map_eq_some_iff, Option.ite_none_right_eq_some, Option.some.injEq, Bool.and_eq_true] at e
  obtain ⟨b, ⟨⟨d1, d2⟩, rfl⟩, rfl⟩ := e
  have f1 := (Bool.and_eq_true_iff.mp (show (flat tx && _) = true from d1)).1
  have f2 := (Bool.and_eq_true_iff.mp (show (flat ty && _) = true from d2)).1
  refine ⟨toD tx, toD ty, dpT_of r.sub hx f1, dpT_of r.sub hy f2, shaped_of d1, shaped_of d2, ?_⟩
  rw [eqv_of _ _ f1 f2]
  exact q.val r (.bl _) rfl
theorem f_gt {K : PySem.W.Frag} : CmF K (rI0 fun i j => .bl (decide (j < i))) (cmpT .gt) := by
  intro H0 g own env s σ H x y tx ty t Q r hx hy e q
  cases hx <;> cases hy <;> simp only [cmpT, Option.map_none, Option.map_some, reduceCtorEq, Option.some.injEq] at e
  subst e
  exact ⟨_, _, rfl, rfl, q.val r (.bl _) rfl⟩
theorem f_le {K : PySem.W.Frag} : CmF K (rI0 fun i j => .bl (decide (i ≤ j))) (cmpT .le) := by
  intro H0 g own env s σ H x y tx ty t Q r hx hy e q
  cases hx <;> cases hy <;> simp only [cmpT, Option.map_none, Option.map_some, reduceCtorEq, Option.some.injEq] at e
  subst e
  exact ⟨_, _, rfl, rfl, q.val r (.bl _) rfl⟩
theorem f_ge {K : PySem.W.Frag} : CmF K (rI0 fun i j => .bl (decide (j ≤ i))) (cmpT .ge) := by
  intro H0 g own env s σ H x y tx ty t Q r hx hy e q
  cases hx <;> cases hy <;> simp only [cmpT, Option.map_none, Option.map_some, reduceCtorEq, Option.some.injEq] at e
  subst e
  exact ⟨_, _, rfl, rfl, q.val r (.bl _) rfl⟩
/-- x in a tuple of data -/
def rInDT (K : PySem.W.Frag) : R2 := fun x y H Q => ∃ d ds, Dp K H x d ∧ Dp K H y (.tuple ds) ∧ SeqAt.shaped d = true ∧ SeqAt.shaped (.tuple ds) = true ∧ Q (.bl (ds.any fun z => PyData.eqv z d)) H
def rNotInDT (K : PySem.W.Frag) : R2 := fun x y H Q => ∃ d ds, Dp K H x d ∧ Dp K H y (.tuple ds) ∧ SeqAt.shaped d = true ∧ SeqAt.shaped (.tuple ds) = true ∧ Q (.bl (!ds.any fun z => PyData.eqv z d)) H
theorem op_inDT (hu : X.A.units + 65 < cLine) : OpR X (compareOp .In) (rInDT X.K) := by
  intro pins s σ H x y v u Q I rx ry h
  obtain ⟨d, ds, hd, he, sd, se, q⟩ := h
  obtain ⟨as, r1⟩ := Dp.reads I d x v hd rx
  obtain ⟨bs, r2⟩ := Dp.reads I (.tuple ds) y u he ry
  exact SeqAt.in_tuple_reads r2 r1 (SeqAt.canLay_of_shaped se) (SeqAt.canLay_of_shaped sd) (room_in_shaped sd hu) ⟨.bl _, H, I, rfl, q⟩
theorem op_notInDT (hu : X.A.units + 65 < cLine) : OpR X (compareOp .NotIn) (rNotInDT X.K) := by
  intro pins s σ H x y v u Q I rx ry h
  obtain ⟨d, ds, hd, he, sd, se, q⟩ := h
  obtain ⟨as, r1⟩ := Dp.reads I d x v hd rx
  obtain ⟨bs, r2⟩ := Dp.reads I (.tuple ds) y u he ry
  exact SeqAt.notIn_tuple_reads r2 r1 (SeqAt.canLay_of_shaped se) (SeqAt.canLay_of_shaped sd) (room_in_shaped sd hu) ⟨.bl _, H, I, rfl, q⟩

/-! tuple * int, of any number -/
theorem tuple_mul_same (l : Addr) (items : Array Value) (n : Nat) (dd : Option Addr) (sl : Array (Option Value)) (x : Int) (u : Tok) (c0 : (decide (x < -(2 ^ 63)) || decide (x ≥ 2 ^ 63)) = false) (c1 : (items.isEmpty || x == 1) = true) :
    Meets (Builtin.«tuple.__mul__» ⟨[.ref l, .int x u], []⟩) (fun _ R s => s.heap.get? l = some { cls := .type "tuple", dict := dd, data := .seq items n, slots := sl } ∧ R (.ok (.ret (Value.ref l))) s) :=
  .of_wp fun prog w A R s h => by
    obtain ⟨hp, g, d, tk, os⟩ := s
    obtain ⟨hl, h⟩ := h
    have f1 := AutoSeq1.idx_int
    wp_walk using wpAny_loadPart' hl
    repeat (first
      | (refine wpAny_ite_false (decide_eq_false (by rw [c0]; exact Bool.false_ne_true)) ?_; wp_walk using wpAny_loadPart' hl)
      | (refine wpAny_ite_true (decide_eq_true (by rw [c1])) ?_; wp_walk using wpAny_loadPart' hl))
    exact ⟨_, rfl, h⟩
theorem tuple_mul_none (l : Addr) (items : Array Value) (n : Nat) (dd : Option Addr) (sl : Array (Option Value)) (x : Int) (u : Tok) (c0 : (decide (x < -(2 ^ 63)) || decide (x ≥ 2 ^ 63)) = false) (c1 : (items.isEmpty || x == 1) = false) (c2 : (decide (x ≤ 0) || items.isEmpty) = true) :
    Meets (Builtin.«tuple.__mul__» ⟨[.ref l, .int x u], []⟩) (fun _ R s => s.heap.get? l = some { cls := .type "tuple", dict := dd, data := .seq items n, slots := sl } ∧
      R (.ok (.ret (Value.ref s.heap.objs.size))) { s with heap := s.heap.push { cls := Value.type "tuple", data := Data.seq #[] } }) :=
  .of_wp fun prog w A R s h => by
    obtain ⟨hp, g, d, tk, os⟩ := s
    obtain ⟨hl, h⟩ := h
    have f1 := AutoSeq1.idx_int
    wp_walk using wpAny_loadPart' hl
    repeat (first
      | (refine wpAny_ite_false (decide_eq_false (by rw [c0]; exact Bool.false_ne_true)) ?_; wp_walk using wpAny_loadPart' hl)
      | (refine wpAny_ite_false (decide_eq_false (by rw [c1]; exact Bool.false_ne_true)) ?_; wp_walk using wpAny_loadPart' hl)
      | (refine wpAny_ite_true (decide_eq_true (by rw [c2])) ?_; wp_walk using wpAny_loadPart' hl))
    exact ⟨_, rfl, h⟩
def rRepA (K : PySem.W.Frag) : R2 := fun x y H Q => ∃ l k xs, x = .ref l ∧ y = .int k ∧ SqT K H l xs ∧ -1000 ≤ k ∧ k ≤ 1000 ∧ xs.length ≤ 1000 ∧
  ((xs = [] ∨ k = 1) → Q (.ref l) H) ∧ (xs ≠ [] → k ≤ 0 → ∀ p, H p = none → Q (.ref p) (upd H p (.tup []))) ∧ (xs ≠ [] → 2 ≤ k → ∀ p, H p = none → Q (.ref p) (upd H p (.tup (List.replicate k.toNat xs).flatten)))
theorem op_repA : OpR X (binaryOp .Mult) (rRepA X.K) := by
  intro pins s σ H x y v u Q I rx ry h
  obtain ⟨l, k, xs, rfl, rfl, hT, h0, h2, hz, q1, q2, q3⟩ := h
  by_cases hbig : xs ≠ [] ∧ 2 ≤ k
  · exact op_repT pins s σ H _ _ v u Q I rx ry ⟨l, k, xs, rfl, rfl, hT, hbig.1, hbig.2, h2, hz, q3 hbig.1 hbig.2⟩
  cases rx
  obtain ⟨t, rfl⟩ := ry
  obtain ⟨its, r, ⟨⟨cls, dd, data, sl⟩, ho, hc, n, hd⟩, hs⟩ := I.tuple hT
  simp only at hc hd
  subst hc hd
  have hle : its.length = xs.length := r.length.symm
  have c0 : (decide (k < -(2 ^ 63)) || decide (k ≥ 2 ^ 63)) = false := by
    rw [decide_eq_false (by omega), decide_eq_false (by omega)] <;> rfl
  have emp : its.toArray.isEmpty = xs.isEmpty := by
    cases its with
    | nil => cases r; rfl
    | cons a b => cases r; rfl
  refine wpAny_binaryOp_repeat_ref (T := "tuple") (U := "int") (by decide) ⟨_, ho, rfl⟩ (fun s' => typeIs_int s' k t) noFill_tuple_mul F.fills_int_mul F.slot_int_rmul repeat_tuple F.slot_int_index.lookup
    (call_meets F.slot_int_rmul (typeIs_int s k t) F.entry_int_rmul (F.args_int_rmul_2 _ _) (int_rmul_tuple k t l its.toArray n dd sl)
      ⟨ho, rfl, ⟨_, ho, rfl⟩, ?_⟩)
  by_cases hone : xs = [] ∨ k = 1
  · refine call_meets F.slot_tuple_mul ⟨_, ho, rfl⟩ F.entry_tuple_mul (F.args_tuple_mul_2 _ _) (tuple_mul_same l its.toArray n dd sl k t c0 ?_) ⟨ho, ⟨.ref l, H, I, rfl, q1 hone⟩⟩
    rw [emp]
    rcases hone with rfl | rfl
    · rfl
    · cases xs <;> rfl
  · have hne : xs ≠ [] := fun z => hone (.inl z)
    have hk : k ≤ 0 := by
      have : ¬ 2 ≤ k := fun z => hbig ⟨hne, z⟩
      have : k ≠ 1 := fun z => hone (.inr z)
      omega
    have e0 : xs.isEmpty = false := by cases xs with
      | nil => exact absurd rfl hne
      | cons _ _ => rfl
    refine call_meets F.slot_tuple_mul ⟨_, ho, rfl⟩ F.entry_tuple_mul (F.args_tuple_mul_2 _ _) (tuple_mul_none l its.toArray n dd sl k t c0 ?_ ?_) ⟨ho, ?_⟩
    · rw [emp, e0, Bool.false_or]; exact beq_eq_false_iff_ne.mpr (by omega)
    · rw [decide_eq_true hk]; rfl
    · refine ⟨.ref s.heap.objs.size, _, I.laid (t' := s.toks) (o := .tup []) (fun b ob q => Heap.get?_push_of_some _ q) (Nat.le_refl _) ?_, rfl, q2 hne hk _ (I.hok.fresh (Nat.le_refl _))⟩
      exact ⟨Nat.zero_le _, _, .nil, IsTup.new _ _⟩
def rMulA (K : PySem.W.Frag) : R2 := fun x y H Q => rI CMul (fun i j => .int (i * j)) x y H Q ∨ (rRep x y H Q ∨ rRepA K x y H Q)
theorem opr_mul : OpR X (binaryOp .Mult) (rMulA X.K) := op_mul.or (op_rep.or op_repA)
theorem flat_rep_nil {α : Type} : ∀ n : Nat, (List.replicate n ([] : List α)).flatten = []
  | 0 => rfl
  | n + 1 => by rw [List.replicate_succ, List.flatten_cons, flat_rep_nil n]; rfl
theorem f_mul {K : PySem.W.Frag} : OpF K (rMulA K) (binT .mul) := by
  intro H0 g own env s σ H x y tx ty t Q r hx hy e q
  cases hx <;> cases hy <;> simp only [binT, reduceCtorEq, Option.some.injEq] at e
  · split at e
    · rename_i hm
      cases e
      refine .inl ⟨_, _, rfl, rfl, ?_, q.val r (.int _) rfl⟩
      unfold mulOk at hm
      rw [Bool.or_eq_true, decide_eq_true_eq, decide_eq_true_eq] at hm
      exact hm
    · cases e
  · rename_i a xs ts h1 h2 k
    split at e
    · rename_i hc
      cases e
      simp only [Bool.and_eq_true, decide_eq_true_eq] at hc
      refine .inr (.inr ⟨a, k, xs, rfl, rfl, r.st h1, hc.1.2, hc.1.1, by rw [h2.length]; exact hc.2, fun z => ?_, fun z hk p hp => ?_, fun z hk p hp => q.tup r hp (h2.rep _)⟩)
      · rcases z with rfl | rfl
        · cases h2
          rw [flat_rep_nil] at q
          exact q.val r (.tup h1 .nil) rfl
        · have e1 : (List.replicate (1 : Int).toNat ts).flatten = ts := by simp
          rw [e1] at q
          exact q.val r (.tup h1 h2) rfl
      · have e1 : (List.replicate k.toNat ts).flatten = [] := by
          have : k.toNat = 0 := by omega
          rw [this]; rfl
        rw [e1] at q
        exact q.tup r hp .nil
    · cases e
  · rename_i a xs ts h1 h2 k
    split at e
    · rename_i hc
      cases e
      simp only [Bool.and_eq_true, decide_eq_true_eq] at hc
      refine .inr (.inl ⟨a, k, xs, rfl, rfl, h1, by omega, by omega, ?_, fun p hp => q.made r hp (.lst (h2.rep _))⟩)
      rw [h2.length, sizeLine_eq]
      have a1 : ts.length * k.toNat ≤ 1000 * 1000 := Nat.mul_le_mul hc.2 (by omega)
      omega
    · cases e
end
end Gh
set_option linter.all false
set_option maxRecDepth 100000
set_option maxHeartbeats 1000000
namespace Gh
open PySem PySem.Spec PyProof.Rows L2
section
variable {X : Cx}

/-! ### dicts -/
/-- an empty dict asked for a tuple -/
theorem empty_dt {P : Program} {w : World} {H : Hp} {h : Heap} {a : Addr} (ok : HOk P w H h) (e : Rd H a (.dK [])) : (a == sysModules) = false ∧ h.DictOfH (tupleKind (mixKind P w)) a [] := by
  obtain ⟨z, hd, vs, rel, o, es, ep, h1, h2, h3, h4, h5, h6⟩ := dk_rd ok e
  cases rel
  refine ⟨hd, o, es, ep, h1, h2, h3, ?_, fun _ hx => (nomatch hx), List.nodup_nil⟩
  have := h5.length
  cases hh : es.toList with
  | nil => rfl
  | cons x r => rw [hh] at this; simp at this
def DGet' (H : Hp) (a : Addr) (y : V) (r : Option V) : Prop :=
  DGet H a y r ∨ (Rd H a (.dK []) ∧ r = none ∧ ∃ (k : List Key) (b : Addr), y = .ref b ∧ H b = some (.tup (k.map kV)))
def rKin (neg : Bool) : R2 := fun x y H Q => ∃ a o, y = .ref a ∧ DGet' H a x o ∧ Q (.bl (if neg then !o.isSome else o.isSome)) H
theorem op_kin (hu : X.A.units + 1 < cLine) : OpR X (compareOp .In) (rKin false) := by
  intro pins s σ H x y v u Q I rx ry h
  obtain ⟨a, o, rfl, g, q⟩ := h
  cases ry
  rcases g with g | ⟨e, rfl, k, b, rfl, eb⟩
  · exact d_in hu I g rx fun s' I' => ⟨.bl _, H, I', rfl, q⟩
  · cases rx
    obtain ⟨hd, dd⟩ := empty_dt I.hok e
    refine wpAny_in_heap (tupleKind_room_in1 hu) (key_of I.hok eb) hd dd ?_
    exact ⟨.bl _, H, I.tok _, rfl, q⟩
theorem op_knotin (hu : X.A.units + 1 < cLine) : OpR X (compareOp .NotIn) (rKin true) := by
  intro pins s σ H x y v u Q I rx ry h
  obtain ⟨a, o, rfl, g, q⟩ := h
  cases ry
  rcases g with g | ⟨e, rfl, k, b, rfl, eb⟩
  · exact d_notIn hu I g rx fun s' I' => ⟨.bl _, H, I', rfl, q⟩
  · cases rx
    obtain ⟨hd, dd⟩ := empty_dt I.hok e
    refine wpAny_notIn_heap (tupleKind_room_in1 hu) (key_of I.hok eb) hd dd ?_
    exact ⟨.bl _, H, I.tok _, rfl, q⟩

section
variable {K : PySem.W.Frag} {H0 : Fm} {g : Gs} {own : Own} {env : List Slot} {s : Src} {σ : L2.St} {H : Hp}
/-- what the tree's dict tells of a key, the heap's tells -/
theorem dget_of (r : R K H0 g own env s σ H) {x y : V} {tx ty : T} {o : Option T} (hx : RepT K g H x tx) (hy : RepT K g H y ty) (e : dlook tx ty = some o) :
    ∃ a w, x = .ref a ∧ DGet H a y w ∧ (∀ t, o = some t → ∃ v, w = some v ∧ Rep K g v t) ∧ (o = none → w = none) := by
  cases hx with
  | dK h1 h2 =>
    rename_i a kvs ts
    simp only [dlook] at e
    split at e
    · rename_i k hk
      cases e
      have ey : y = kV (kk k) := by
        cases hy <;> simp only [keyK, Option.some.injEq, reduceCtorEq] at hk <;> subst hk <;> rfl
      obtain ⟨q1, q2⟩ := look_rep k h2
      exact ⟨a, valV kvs (kk k), rfl, .inl ⟨kvs, kk k, h1, ey, rfl⟩, q1, q2⟩
    · cases e
  | dT h1 h2 =>
    rename_i a kvs ts
    cases hy with
    | tup h3 h4 =>
      simp only [dlook] at e
      split at e
      · rename_i k hk
        cases e
        have ey := keyKs_rep h4 hk
        subst ey
        obtain ⟨q1, q2⟩ := look_repD k h2
        exact ⟨a, valV kvs (k.map kk), rfl, .inr ⟨kvs, k.map kk, _, h1, rfl, r.sub _ _ h3, rfl⟩, q1, q2⟩
      · cases e
    | _ => simp [dlook] at e
  | _ => simp [dlook] at e
theorem dget_of' (r : R K H0 g own env s σ H) {x y : V} {tx ty : T} {o : Option T} (hx : RepT K g H x tx) (hy : RepT K g H y ty) (e : dlook' tx ty = some o) :
    ∃ a w, x = .ref a ∧ DGet' H a y w ∧ (∀ t, o = some t → ∃ v, w = some v ∧ Rep K g v t) ∧ (o = none → w = none) := by
  unfold dlook' at e
  split at e
  · rename_i ts
    simp only [Option.map_eq_some_iff] at e
    obtain ⟨ks, hk, rfl⟩ := e
    cases hx with
    | dK h1 h2 =>
      cases h2
      cases hy with
      | tup h3 h4 =>
        have ey := keyKs_rep h4 hk
        subst ey
        exact ⟨_, none, rfl, .inr ⟨h1, rfl, ks.map kk, _, rfl, r.sub _ _ h3⟩, (fun _ z => nomatch z), fun _ => rfl⟩
  · obtain ⟨a, w, h1, h2, h3⟩ := dget_of r hx hy e
    exact ⟨a, w, h1, .inl h2, h3⟩
end
theorem isSome_of {o : Option T} {w : Option V} {K : PySem.W.Frag} {g : Gs} (h1 : ∀ t, o = some t → ∃ v, w = some v ∧ Rep K g v t) (h2 : o = none → w = none) : w.isSome = o.isSome := by
  cases o with
  | none => rw [h2 rfl]; rfl
  | some t => obtain ⟨v, e, _⟩ := h1 t rfl; rw [e]; rfl

/-! in -/
def rInA (K : PySem.W.Frag) : R2 := fun x y H Q => rInD K x y H Q ∨ (rInDT K x y H Q ∨ rKin false x y H Q)
def rNinA (K : PySem.W.Frag) : R2 := fun x y H Q => rNotInD K x y H Q ∨ (rNotInDT K x y H Q ∨ rKin true x y H Q)
theorem opr_in (hu : X.A.units + 65 < cLine) : OpR X (compareOp .In) (rInA X.K) := (op_inD hu).or ((op_inDT hu).or (op_kin (by omega)))
theorem opr_nin (hu : X.A.units + 65 < cLine) : OpR X (compareOp .NotIn) (rNinA X.K) := (op_notInD hu).or ((op_notInDT hu).or (op_knotin (by omega)))
theorem flat_of {t : T} (h : data t = true) : flat t = true := (Bool.and_eq_true_iff.mp (show (flat t && _) = true from h)).1
theorem f_in {K : PySem.W.Frag} : CmF K (rInA K) (cmpT .inn) := by
  intro H0 g own env s σ H x y tx ty t Q r hx hy e q
  simp only [Option.map_eq_some_iff] at e
  obtain ⟨b, e, rfl⟩ := e
  have dk : (dlook' ty tx).map Option.isSome = some b → rInA K x y H Q := fun e' => by
    simp only [Option.map_eq_some_iff] at e'
    obtain ⟨o, e', rfl⟩ := e'
    obtain ⟨a, w, h1, h2, h3, h4⟩ := dget_of' r hy hx e'
    refine .inr (.inr ⟨a, w, h1, h2, ?_⟩)
    rw [isSome_of h3 h4]
    exact q.val r (.bl _) rfl
  cases hy with
  | tup h1 h2 =>
    simp only [cmpT, Option.ite_none_right_eq_some, Option.some.injEq, Bool.and_eq_true] at e
    obtain ⟨⟨d1, d2⟩, rfl⟩ := e
    refine .inr (.inl ⟨toD tx, _, dpT_of r.sub hx (flat_of d1), dpT_of r.sub (.tup h1 h2) (flat_of d2), shaped_of d1, shaped_of d2, ?_⟩)
    have := any_of tx (flat_of d1) _ (flat_of d2)
    rw [this]
    exact q.val r (.bl _) rfl
  | lst h1 h2 =>
    simp only [cmpT, Option.ite_none_right_eq_some, Option.some.injEq, Bool.and_eq_true] at e
    obtain ⟨⟨d1, d2⟩, rfl⟩ := e
    refine .inl ⟨toD tx, _, dpT_of r.sub hx (flat_of d1), dpT_of r.sub (.lst h1 h2) (flat_of d2), shaped_of d1, shaped_of d2, ?_⟩
    have := any_of tx (flat_of d1) _ (flat_of d2)
    rw [this]
    exact q.val r (.bl _) rfl
  | _ => exact dk (by simpa [cmpT] using e)
theorem f_nin {K : PySem.W.Frag} : CmF K (rNinA K) (cmpT .nin) := by
  intro H0 g own env s σ H x y tx ty t Q r hx hy e q
  simp only [Option.map_eq_some_iff] at e
  obtain ⟨b, e, rfl⟩ := e
  have dk : (dlook' ty tx).map (fun o => !o.isSome) = some b → rNinA K x y H Q := fun e' => by
    simp only [Option.map_eq_some_iff] at e'
    obtain ⟨o, e', rfl⟩ := e'
    obtain ⟨a, w, h1, h2, h3, h4⟩ := dget_of' r hy hx e'
    refine .inr (.inr ⟨a, w, h1, h2, ?_⟩)
    rw [isSome_of h3 h4]
    exact q.val r (.bl _) rfl
  cases hy with
  | tup h1 h2 =>
    simp only [cmpT, Option.ite_none_right_eq_some, Option.some.injEq, Bool.and_eq_true] at e
    obtain ⟨⟨d1, d2⟩, rfl⟩ := e
    refine .inr (.inl ⟨toD tx, _, dpT_of r.sub hx (flat_of d1), dpT_of r.sub (.tup h1 h2) (flat_of d2), shaped_of d1, shaped_of d2, ?_⟩)
    have := any_of tx (flat_of d1) _ (flat_of d2)
    rw [this]
    exact q.val r (.bl _) rfl
  | lst h1 h2 =>
    simp only [cmpT, Option.ite_none_right_eq_some, Option.some.injEq, Bool.and_eq_true] at e
    obtain ⟨⟨d1, d2⟩, rfl⟩ := e
    refine .inl ⟨toD tx, _, dpT_of r.sub hx (flat_of d1), dpT_of r.sub (.lst h1 h2) (flat_of d2), shaped_of d1, shaped_of d2, ?_⟩
    have := any_of tx (flat_of d1) _ (flat_of d2)
    rw [this]
    exact q.val r (.bl _) rfl
  | _ => exact dk (by simpa [cmpT] using e)

/-! ### a[i] -/
def rIxD : R2 := fun x y H Q => ∃ a v, x = .ref a ∧ DGet H a y (some v) ∧ Q v H
theorem ix_dict (hu : X.A.units + 1 < cLine) : IxR X rIxD := by
  intro value slice pins s σ H x y v u Q I rx ry h hs
  obtain ⟨a, w, rfl, g, q⟩ := h
  cases rx
  have hT := dict_typeIs I g
  unfold subscriptTail
  refine wpAny_bind ?_
  rw [getitemInPython_of_ne hT.not_modules]
  refine wpAny_bind (wpAny_specialOf hT PySem.F.slot_dict_getitem.lookup ?_)
  have fin : wpAny (model X.prog X.w) X.A (subscripted slice false (.ref a) u) (fun r s₃ => wpAny (model X.prog X.w) X.A (letTemporaryGo value (.ref a) r >>= fun _ => pure r) (EP X pins σ Q) X.xe s₃) X.xe s := by
    rw [hs]
    exact wpAny_operating (d_getItem hu I g ry fun w' s3 I3 rw' => wpAny_bind (wpAny_letTemporaryGo (wpAny_pure ⟨w, H, I3, rw', q⟩)))
  first
    | exact wpAny_pure (wpAny_bind fin)
    | exact wpAny_bind (wpAny_pure (wpAny_bind fin))
    | exact wpAny_bind fin
def rIxA (K : PySem.W.Frag) : R2 := fun x y H Q => rIxL K x y H Q ∨ (rIxT K x y H Q ∨ rIxD x y H Q)
theorem ix_any (hu : X.A.units + 1 < cLine) : IxR X (rIxA X.K) := ix_list.or (ix_tup.or (ix_dict hu))
theorem ixN_eq (n : Nat) (i : Int) : Gh.ixN n i = L2.ixN n i := rfl
def OpV (K : PySem.W.Frag) (r : R2) (f : T → T → Option T) : Prop :=
  ∀ {H0 : Fm} {g : Gs} {own : Own} {env : List Slot} {s : Src} {σ : L2.St} {H : Hp} {x y : V} {tx ty t : T} {Q : VK},
    R K H0 g own env s σ H → RepT K g H x tx → RepT K g H y ty → f tx ty = some t → PostV K H0 own env s σ t Q g → r x y H Q
theorem PostV.val {K : PySem.W.Frag} {H0 : Fm} {g : Gs} {own : Own} {env : List Slot} {s : Src} {σ : L2.St} {H : Hp} {t : T} {Q : VK} (h : PostV K H0 own env s σ t Q g) (r : R K H0 g own env s σ H) {v : V} (hv : Rep K g v t) : Q v H := h g v H (Le.refl g) r hv
theorem atI_of {K : PySem.W.Frag} {g : Gs} {xs : List V} {ts : List T} {i : Int} {t : T} (h : Reps K g xs ts) (e : ((Gh.ixN ts.length i).bind fun j => ts[j]?) = some t) : ∃ v, atI xs i = some v ∧ Rep K g v t := by
  cases hj : Gh.ixN ts.length i with
  | none => rw [hj] at e; cases e
  | some j =>
    rw [hj] at e
    obtain ⟨v, h1, h2⟩ := h.get (show ts[j]? = some t from e)
    refine ⟨v, ?_, h2⟩
    unfold atI
    rw [h.length, ← ixN_eq, hj]
    exact h1
theorem f_ix {K : PySem.W.Frag} : OpV K (rIxA K) idxT := by
  intro H0 g own env s σ H x y tx ty t Q r hx hy e q
  have dk : (dlook tx ty).bind id = some t → rIxA K x y H Q := fun e' => by
    cases hl : dlook tx ty with
    | none => rw [hl] at e'; cases e'
    | some o =>
      rw [hl] at e'
      have eo : o = some t := e'
      obtain ⟨a, w, h1, h2, h3, h4⟩ := dget_of r hx hy hl
      obtain ⟨v, rfl, hv⟩ := h3 t eo
      exact .inr (.inr ⟨a, v, h1, h2, q.val r hv⟩)
  cases hx with
  | tup h1 h2 =>
    cases hy with
    | int i =>
      obtain ⟨v, e1, hv⟩ := atI_of h2 e
      exact .inr (.inl ⟨_, _, i, v, rfl, rfl, r.st h1, e1, q.val r hv⟩)
    | _ => simp [idxT, dlook] at e
  | lst h1 h2 =>
    cases hy with
    | int i =>
      obtain ⟨v, e1, hv⟩ := atI_of h2 e
      exact .inl ⟨_, _, i, v, rfl, rfl, SqL.of h1, e1, q.val r hv⟩
    | _ => simp [idxT, dlook] at e
  | dK h1 h2 => exact dk (by simpa [idxT] using e)
  | dT h1 h2 => exact dk (by simpa [idxT] using e)
  | _ => simp [idxT, dlook] at e

/-! ### slices -/
theorem sIx_eq (n d : Nat) (o : Option Int) : Gh.sIx n d o = HT.sIx n d o := by
  cases o with
  | none => rfl
  | some v =>
    unfold Gh.sIx HT.sIx
    first | rfl | (split <;> rfl) | (split <;> omega)
def rSlAny (K : PySem.W.Frag) : V → Option Int → Option Int → Hp → VK → Prop := fun x lo hi H Q => rSlL K x lo hi H Q ∨ rSlA K x lo hi H Q
theorem sl_any : SlR X (rSlAny X.K) := sl_list.or sl_tupA
theorem cut_rep {K : PySem.W.Frag} {g : Gs} {xs : List V} {ts : List T} (h : Reps K g xs ts) (lo hi : Option Int) : Reps K g (cutV xs lo hi) (cut ts lo hi) := by
  unfold cutV cut
  rw [h.length, sIx_eq, sIx_eq]
  exact (h.drop _).take _
theorem f_sl {K : PySem.W.Frag} {H0 : Fm} {g : Gs} {own : Own} {env : List Slot} {s : Src} {σ : L2.St} {H : Hp} {x : V} {tx tl th t : T} {lo hi : Option Int} {Q : VK}
    (r : R K H0 g own env s σ H) (hx : RepT K g H x tx) (el : bound tl = some lo) (eh : bound th = some hi) (e : slT tx tl th = some t) (q : PostF K H0 own env s σ t Q g) : rSlAny K x lo hi H Q := by
  unfold slT at e
  rw [el, eh] at e
  cases hx with
  | tup h1 h2 =>
    rename_i a xs ts
    cases e
    refine .inr ⟨a, xs, rfl, r.st h1, fun z => ?_, fun z p hp => q.tup r hp (cut_rep h2 lo hi)⟩
    have e1 : cut ts lo hi = ts := by
      rw [h2.length] at z
      unfold cut
      rw [sIx_eq, sIx_eq, z.1, z.2]
      simp
    rw [e1] at q
    exact q.val r (.tup h1 h2) rfl
  | lst h1 h2 =>
    cases e
    exact .inl ⟨_, _, rfl, SqL.of h1, fun p hp => q.made r hp (.lst (cut_rep h2 lo hi))⟩
  | _ => simp at e
end
end Gh
set_option linter.all false
set_option maxRecDepth 100000
set_option maxHeartbeats 1000000
namespace Gh
open PySem PySem.Spec PyProof.Rows L2
open PySem.W (toks_all_cons keyToksAll keyToks alike alikeAll dataLt EachIs AllAlike Sortable AlikeAll dataLe)

/-! ### order -/
mutual
theorem alike_of : ∀ (a b : T), alikeT a b = true → alike (toD a) (toD b) = true
  | .int _, b, h => by cases b <;> first | rfl | cases h
  | .tup xs, b, h => by
    cases b <;> first | cases h | skip
    rename_i ys
    show alikeAll (toDs xs) (toDs ys) = true
    exact alikes_of xs ys h
  | .non, b, h => by cases b <;> cases h
  | .bl _, b, h => by cases b <;> cases h
  | .str _, b, h => by cases b <;> cases h
  | .ptup _, b, h => by cases b <;> cases h
  | .lst _, b, h => by cases b <;> cases h
  | .dK _, b, h => by cases b <;> cases h
  | .dT _, b, h => by cases b <;> cases h
  | .rng _ _, b, h => by cases b <;> cases h
  | .scr _, b, h => by cases b <;> cases h
  | .src, b, h => by cases b <;> cases h
theorem alikes_of : ∀ (xs ys : List T), alikeTs xs ys = true → alikeAll (toDs xs) (toDs ys) = true
  | [], [], _ => by simp [toDs, alikeAll]
  | [], _ :: _, _ => by simp [toDs, alikeAll]
  | _ :: _, [], _ => by simp [toDs, alikeAll]
  | x :: xs, y :: ys, h => by
    have h' : (alikeT x y && alikeTs xs ys) = true := h
    rw [Bool.and_eq_true] at h'
    show alikeAll (toD x :: toDs xs) (toD y :: toDs ys) = true
    rw [alikeAll, alike_of x y h'.1, alikes_of xs ys h'.2]; rfl
end
theorem flats_cons {x : T} {xs : List T} (h : flats (x :: xs) = true) : flat x = true ∧ flats xs = true := Bool.and_eq_true_iff.mp (show (flat x && flats xs) = true from h)
mutual
theorem lt_of : ∀ (a b : T), alikeT a b = true → flat a = true → flat b = true → dataLt (toD a) (toD b) = ltB a b
  | .int i, b, h, _, _ => by
    cases b <;> first | cases h | skip
    exact PySem.W.dataLt_int i _
  | .tup xs, b, h, f1, f2 => by
    cases b <;> first | cases h | skip
    rename_i ys
    show dataLt (.tuple (toDs xs)) (.tuple (toDs ys)) = ltBs xs ys
    rw [PySem.W.dataLt_tuple]
    exact lts_of xs ys h f1 f2
  | .non, b, h, _, _ => by cases b <;> cases h
  | .bl _, b, h, _, _ => by cases b <;> cases h
  | .str _, b, h, _, _ => by cases b <;> cases h
  | .ptup _, b, h, _, _ => by cases b <;> cases h
  | .lst _, b, h, _, _ => by cases b <;> cases h
  | .dK _, b, h, _, _ => by cases b <;> cases h
  | .dT _, b, h, _, _ => by cases b <;> cases h
  | .rng _ _, b, h, _, _ => by cases b <;> cases h
  | .scr _, b, h, _, _ => by cases b <;> cases h
  | .src, b, h, _, _ => by cases b <;> cases h
theorem lts_of : ∀ (xs ys : List T), alikeTs xs ys = true → flats xs = true → flats ys = true →
    PyProof.Rows.lexLt itemOrd (keyToksAll (toDs xs)) (keyToksAll (toDs ys)) = ltBs xs ys
  | [], [], _, _, _ => by simp [toDs, ltBs, keyToksAll, lex_irrefl]
  | [], y :: ys, _, _, _ => by
    show PyProof.Rows.lexLt itemOrd (keyToksAll []) (keyToksAll (toD y :: toDs ys)) = true
    rw [toks_all_cons]
    simp only [keyToksAll]
    rw [lex_diff (O := itemOrd) (by simp)]
    simp [itemLt]
  | x :: xs, [], _, _, _ => by
    show PyProof.Rows.lexLt itemOrd (keyToksAll (toD x :: toDs xs)) (keyToksAll []) = false
    rw [toks_all_cons]
    simp only [keyToksAll]
    rw [lex_diff (O := itemOrd) (by simp)]
    simp [itemLt]
  | x :: xs, y :: ys, h, f1, f2 => by
    have h' := Bool.and_eq_true_iff.mp (show (alikeT x y && alikeTs xs ys) = true from h)
    have g1 := flats_cons f1
    have g2 := flats_cons f2
    have a := alike_of x y h'.1
    have e := eqv_of x y g1.1 g2.1
    show PyProof.Rows.lexLt itemOrd (keyToksAll (toD x :: toDs xs)) (keyToksAll (toD y :: toDs ys)) = if eqT x y = true then ltBs xs ys else ltB x y
    by_cases q : eqT x y = true
    · rw [if_pos q, PySem.W.dataLt_all_yes a (by rw [e]; exact q)]
      exact lts_of xs ys h'.2 g1.2 g2.2
    · rw [if_neg q, PySem.W.dataLt_all_no a (by rw [e]; simpa using q)]
      exact lt_of x y h'.1 g1.1 g2.1
end
mutual
theorem toD_inj : ∀ (a b : T), alikeT a b = true → toD a = toD b → a = b
  | .int _, b, h, e => by
    cases b with
    | int j => simp only [toD, PyData.int.injEq] at e; rw [e]
    | _ => cases h
  | .tup xs, b, h, e => by
    cases b with
    | tup ys =>
      have := toDs_inj xs ys h (PyData.tuple.inj e)
      rw [this]
    | _ => cases h
  | .non, b, h, _ => by cases b <;> cases h
  | .bl _, b, h, _ => by cases b <;> cases h
  | .str _, b, h, _ => by cases b <;> cases h
  | .ptup _, b, h, _ => by cases b <;> cases h
  | .lst _, b, h, _ => by cases b <;> cases h
  | .dK _, b, h, _ => by cases b <;> cases h
  | .dT _, b, h, _ => by cases b <;> cases h
  | .rng _ _, b, h, _ => by cases b <;> cases h
  | .scr _, b, h, _ => by cases b <;> cases h
  | .src, b, h, _ => by cases b <;> cases h
theorem toDs_inj : ∀ (xs ys : List T), alikeTs xs ys = true → toDs xs = toDs ys → xs = ys
  | [], [], _, _ => rfl
  | [], _ :: _, _, e => by cases e
  | _ :: _, [], _, e => by cases e
  | x :: xs, y :: ys, h, e => by
    have h' := Bool.and_eq_true_iff.mp (show (alikeT x y && alikeTs xs ys) = true from h)
    have e' : toD x :: toDs xs = toD y :: toDs ys := e
    rw [List.cons.injEq] at e'
    rw [toD_inj x y h'.1 e'.1, toDs_inj xs ys h'.2 e'.2]
end
/-! ### sorted -/
section
variable {X : Cx}
def rSortD (K : PySem.W.Frag) : List V → Hp → VK → Prop := fun vs H Q => ∃ (a : Addr) (xs : List V) (ds : List PyData), vs = [V.ref a] ∧ SqL K H a xs ∧ DpAll K H xs ds ∧ AllAlike ds ∧ Sortable ds ∧ (∀ d ∈ ds, d.depth ≤ 64) ∧
  ∀ p, H p = none → Q (.ref p) (upd H p (.lst (((xs.zip ds).mergeSort (dataLe false Prod.snd)).map Prod.fst)))
theorem dpAll_len {K : PySem.W.Frag} {H : Hp} : ∀ {xs : List V} {ds : List PyData}, DpAll K H xs ds → xs.length = ds.length
  | _, _, .nil => rfl
  | _, _, .cons _ b => by simp [dpAll_len b]
theorem each_zip1 : ∀ {xs : List V} {us : List Value} {ds : List PyData}, Vals xs us → xs.length = ds.length → EachIs (fun (v : Value) (b : V × PyData) => RelV b.1 v) us (xs.zip ds)
  | _, _, [], .nil, _ => .nil
  | _, _, d :: ds, .cons r t, h => .cons r (each_zip1 t (by simpa using h))
  | _, _, _ :: _, .nil, h => by simp at h
  | _, _, [], .cons _ _, h => by simp at h
theorem each_zip2 {h : Heap} : ∀ {xs : List V} {us : List Value} {ds : List PyData} {as : List Addr}, ReadsAll h us ds as → xs.length = ds.length → EachIs (fun (v : Value) (b : V × PyData) => ∃ as, Reads h v b.2 as) us (xs.zip ds)
  | [], _, _, _, .nil, _ => .nil
  | x :: xs, _, _, _, .cons r t, h => .cons ⟨_, r⟩ (each_zip2 t (by simpa using h))
  | _ :: _, _, _, _, .nil, h => by simp at h
  | [], _, _, _, .cons _ _, h => by simp at h
theorem vals_each : ∀ {out : List Value} {bs : List (V × PyData)}, EachIs (fun (v : Value) (b : V × PyData) => RelV b.1 v) out bs → Vals (bs.map Prod.fst) out
  | _, _, .nil => .nil
  | _, _, .cons r t => .cons r (vals_each t)
theorem cr_sortD (hu : X.A.units + 80 < cLine) : CallR X (.builtin "sorted") (rSortD X.K) := by
  intro pins s σ H vs us Q I r h
  obtain ⟨a, xs, ds, rfl, hs, hd, hal, hso, hdp, q⟩ := h
  obtain ⟨its, rv, hl, hz⟩ := I.list hs
  rw [Vals.ref1 r]
  obtain ⟨as, hr⟩ := Dp.readsAll I ds xs its hd rv
  have hlen := dpAll_len hd
  have hsnd : (xs.zip ds).map Prod.snd = ds := by rw [List.map_snd_zip]; omega
  refine PySem.W.sorted_data (bs := xs.zip ds) (enc := Prod.snd) hl.isList (each_zip1 rv hlen) (each_zip2 hr hlen) (by rw [hsnd]; exact hal) (by rw [hsnd]; exact hso) (by rw [List.length_zip]; omega) (fun b hb => ?_) fun out ho e => ?_
  · have : b.2 ∈ ds := by rw [← hsnd]; exact List.mem_map_of_mem hb
    have := hdp _ this
    omega
  · obtain ⟨ep, he'⟩ := PyProof.Rows.sortedAll_at s.heap its out.toArray
    have hv := vals_each e
    have hl2 : (((xs.zip ds).mergeSort (dataLe false Prod.snd)).map Prod.fst).length ≤ sizeLine := by
      rw [List.length_map, List.length_mergeSort, List.length_zip]; omega
    exact ⟨.ref _, upd H (s.heap.objs.size + 1) (.lst (((xs.zip ds).mergeSort (dataLe false Prod.snd)).map Prod.fst)), I.laid (t' := s.toks) (fun _ _ => PyProof.Rows.sortedAll_old) (Nat.le_succ _) ⟨hl2, out, ep, hv, he'⟩, rfl, q _ (I.hok.fresh (Nat.le_succ _))⟩
def rSort1 (K : PySem.W.Frag) : List V → Hp → VK → Prop := fun vs H Q => ∃ (a : Addr) (xs : List V), vs = [V.ref a] ∧ SqL K H a xs ∧ xs.length < 2 ∧ ∀ p, H p = none → Q (.ref p) (upd H p (.lst xs))
theorem cr_sort1 : CallR X (.builtin "sorted") (rSort1 X.K) := by
  intro pins s σ H vs us Q I r h
  obtain ⟨a, xs, rfl, hs, h2, q⟩ := h
  obtain ⟨its, rv, hl, hz⟩ := I.list hs
  rw [Vals.ref1 r]
  have hlen := rv.length
  refine SrtO.sorted_ord (ltv := fun _ _ => false) ⟨fun _ _ e => rfl, fun _ _ _ _ _ => rfl⟩ hl.isList (by rw [← hlen]; exact hz) (fun z => by omega) fun out h1 h3 => ?_
  have e : out = its := by
    have hp := SrtO.Stb.perm h3
    match its, hp with
    | [], hp => exact List.perm_nil.mp hp
    | [x], hp => exact List.perm_singleton.mp hp
    | _ :: _ :: _, _ => simp at hlen; omega
  subst e
  obtain ⟨ep, he'⟩ := PyProof.Rows.sortedAll_at s.heap out out.toArray
  exact ⟨.ref _, upd H (s.heap.objs.size + 1) (.lst xs), I.laid (t' := s.toks) (fun _ _ => PyProof.Rows.sortedAll_old) (Nat.le_succ _) ⟨hz, out, ep, rv, he'⟩, rfl, q _ (I.hok.fresh (Nat.le_succ _))⟩
end
end Gh
set_option linter.all false
set_option maxRecDepth 100000
set_option maxHeartbeats 1000000
namespace Gh
open PySem PySem.Spec PyProof.Rows L2
open PySem.W (toks_all_cons keyToksAll keyToks alike alikeAll dataLt EachIs AllAlike Sortable AlikeAll dataLe minD maxD)

/-- a call of one value -/
def CallF (K : PySem.W.Frag) (r : List V → Hp → VK → Prop) (f : T → Option T) : Prop :=
  ∀ {H0 : Fm} {g : Gs} {own : Own} {env : List Slot} {s : Src} {σ : L2.St} {H : Hp} {x : V} {tx t : T} {Q : VK},
    R K H0 g own env s σ H → RepT K g H x tx → f tx = some t → PostF K H0 own env s σ t Q g → r [x] H Q

section
variable {X : Cx}
/-! ### min, max -/
def rBest (sq : PySem.W.Frag → Hp → Addr → List V → Prop) (best : PyData → List PyData → PyData) (K : PySem.W.Frag) : List V → Hp → VK → Prop := fun vs H Q =>
  ∃ (a : Addr) (xs : List V) (d : PyData) (ds : List PyData), vs = [V.ref a] ∧ sq K H a xs ∧ DpAll K H xs (d :: ds) ∧ AlikeAll (d :: ds) ∧ PyData.canLayAll0 (d :: ds) = true ∧ PyData.depthAll (d :: ds) ≤ 64 ∧
    ∀ (i : Nat) (v : V), xs[i]? = some v → (d :: ds)[i]? = some (best d ds) → Q v H
theorem dpAll_at {K : PySem.W.Frag} {H : Hp} : ∀ {xs : List V} {ds : List PyData}, DpAll K H xs ds → ∀ (i : Nat) (v : V), xs[i]? = some v → ∃ e, ds[i]? = some e ∧ Dp K H v e
  | _, _, .nil, i, v, h => by simp at h
  | _, _, .cons a b, 0, v, h => by simp at h; subst h; exact ⟨_, rfl, a⟩
  | _, _, .cons a b, i + 1, v, h => by
    obtain ⟨e, h1, h2⟩ := dpAll_at b i v (by simpa using h)
    exact ⟨e, by simpa using h1, h2⟩
theorem canLay_mem : ∀ {ds : List PyData} {d : PyData}, PyData.canLayAll0 ds = true → d ∈ ds → d.canLay0 = true
  | [], _, _, h => nomatch h
  | x :: xs, d, h, m => by
    have h' := Bool.and_eq_true_iff.mp (show (x.canLay0 && PyData.canLayAll0 xs) = true from h)
    rcases List.mem_cons.mp m with e | m
    · rw [e]; exact h'.1
    · exact canLay_mem h'.2 m
/-- which item it is -/
theorem best_at {pins : List (Addr × Obj)} {σ : L2.St} {H : Hp} {s : Shared} (I : Inv X pins σ H s) {xs : List V} {its : List Value} {ds : List PyData} {b : PyData} (rv : Vals xs its) (hd : DpAll X.K H xs ds) (hc : PyData.canLayAll0 ds = true)
    {Q : VK} (q : ∀ (i : Nat) (v : V), xs[i]? = some v → ds[i]? = some b → Q v H) {i : Nat} {u : Value} {h' : Heap} {tk : Nat} {bs : List Addr} (hu : its.toArray[i]? = some u) (hr : Reads h' u b bs) (kp : ∀ b o, s.heap.get? b = some o → h'.get? b = some o) :
    EP X pins σ Q u { s with heap := h', toks := tk } := by
  have hi : i < xs.length := by
    rw [rv.length]
    have := (Array.getElem?_eq_some_iff.mp hu).1
    simpa using this
  have e1 : xs[i]? = some xs[i] := List.getElem?_eq_getElem hi
  obtain ⟨u', h1, r1⟩ := rv.get e1
  have : u = u' := by
    rw [List.getElem?_toArray] at hu
    rw [h1] at hu
    exact (Option.some.inj hu).symm
  subst this
  obtain ⟨e, h2, h3⟩ := dpAll_at hd i _ e1
  obtain ⟨as, h4⟩ := Dp.reads I e _ u h3 r1
  have h5 := PySem.W.reads_keeps kp h4
  have hm : e ∈ ds := List.mem_of_getElem? h2
  have e2 : e = b := PySem.SeqAt.plain_unique e b u as bs (PySem.PyData.plain_of_canLay0 e (canLay_mem hc hm)) h5 hr
  exact ⟨_, H, I.kept (t' := tk) kp, r1, q i _ e1 (by rw [← e2]; exact h2)⟩
theorem cr_minL (hc : X.calm = true) (hu : X.A.units + 80 < cLine) : CallR X (.builtin "min") (rBest SqL minD X.K) := by
  intro pins s σ H vs us Q I r h
  obtain ⟨a, xs, d, ds, rfl, hs, hd, hal, hcl, hdp, q⟩ := h
  obtain ⟨its, rv, hl, hz⟩ := I.list hs
  rw [Vals.ref1 r]
  obtain ⟨as, hr⟩ := Dp.readsAll I (d :: ds) xs its hd rv
  exact PySem.W.min_list_data (I.ok.hd hc) hl.isList (by simpa using hr) hal (by omega) fun i v h' tk bs h1 h2 h3 => best_at I rv hd hcl q h1 h2 h3
theorem cr_minT (hc : X.calm = true) (hu : X.A.units + 80 < cLine) : CallR X (.builtin "min") (rBest SqT minD X.K) := by
  intro pins s σ H vs us Q I r h
  obtain ⟨a, xs, d, ds, rfl, hs, hd, hal, hcl, hdp, q⟩ := h
  obtain ⟨its, rv, hl, hz⟩ := I.tuple hs
  rw [Vals.ref1 r]
  obtain ⟨as, hr⟩ := Dp.readsAll I (d :: ds) xs its hd rv
  exact PySem.W.min_tuple_data (I.ok.hd hc) hl (by simpa using hr) hal (by omega) fun i v h' tk bs h1 h2 h3 => best_at I rv hd hcl q h1 h2 h3
theorem cr_maxL (hc : X.calm = true) (hu : X.A.units + 80 < cLine) : CallR X (.builtin "max") (rBest SqL maxD X.K) := by
  intro pins s σ H vs us Q I r h
  obtain ⟨a, xs, d, ds, rfl, hs, hd, hal, hcl, hdp, q⟩ := h
  obtain ⟨its, rv, hl, hz⟩ := I.list hs
  rw [Vals.ref1 r]
  obtain ⟨as, hr⟩ := Dp.readsAll I (d :: ds) xs its hd rv
  exact PySem.W.max_list_data (I.ok.hd hc) hl.isList (by simpa using hr) hal (by omega) fun i v h' tk bs h1 h2 h3 => best_at I rv hd hcl q h1 h2 h3
theorem cr_maxT (hc : X.calm = true) (hu : X.A.units + 80 < cLine) : CallR X (.builtin "max") (rBest SqT maxD X.K) := by
  intro pins s σ H vs us Q I r h
  obtain ⟨a, xs, d, ds, rfl, hs, hd, hal, hcl, hdp, q⟩ := h
  obtain ⟨its, rv, hl, hz⟩ := I.tuple hs
  rw [Vals.ref1 r]
  obtain ⟨as, hr⟩ := Dp.readsAll I (d :: ds) xs its hd rv
  exact PySem.W.max_tuple_data (I.ok.hd hc) hl (by simpa using hr) hal (by omega) fun i v h' tk bs h1 h2 h3 => best_at I rv hd hcl q h1 h2 h3
def rMinA (K : PySem.W.Frag) : List V → Hp → VK → Prop := fun xs H Q => rBest SqL minD K xs H Q ∨ rBest SqT minD K xs H Q
def rMaxA (K : PySem.W.Frag) : List V → Hp → VK → Prop := fun xs H Q => rBest SqL maxD K xs H Q ∨ rBest SqT maxD K xs H Q
theorem cr_minA (hc : X.calm = true) (hu : X.A.units + 80 < cLine) : CallR X (.builtin "min") (rMinA X.K) := (cr_minL hc hu).or (cr_minT hc hu)
theorem cr_maxA (hc : X.calm = true) (hu : X.A.units + 80 < cLine) : CallR X (.builtin "max") (rMaxA X.K) := (cr_maxL hc hu).or (cr_maxT hc hu)
end

/-! what the trees say -/
theorem flats_all : ∀ {ts : List T}, flats ts = true ↔ ∀ t ∈ ts, flat t = true
  | [] => by simp [flats]
  | x :: xs => by
    have : flats (x :: xs) = (flat x && flats xs) := rfl
    rw [this, Bool.and_eq_true, flats_all]
    simp
theorem depths_le : ∀ {ts : List T} {n : Nat}, depths ts ≤ n ↔ ∀ t ∈ ts, depth t ≤ n
  | [], n => by simp [depths]
  | x :: xs, n => by
    have : depths (x :: xs) = max (depth x) (depths xs) := rfl
    rw [this, Nat.max_le, depths_le]
    simp
theorem toDs_map (ts : List T) : toDs ts = ts.map toD := by
  induction ts with
  | nil => rfl
  | cons x xs ih => rw [List.map_cons, ← ih]; rfl
theorem allAlike_of {ts : List T} (h : allAlike ts = true) : (∀ x ∈ ts, flat x = true ∧ depth x ≤ 60) ∧ ∀ x ∈ ts, ∀ y ∈ ts, alikeT x y = true := by
  unfold allAlike at h
  simp only [List.all_eq_true, Bool.and_eq_true] at h
  refine ⟨fun x hx => ?_, fun x hx y hy => (h x hx).2 y hy⟩
  have := (h x hx).1
  unfold data at this
  rw [Bool.and_eq_true, decide_eq_true_eq] at this
  exact this
theorem alike_ne {x : T} (h : alikeT x x = true) : toD x ≠ .none := by
  cases x <;> first | cases h; done | (intro e; cases e)
theorem allAlikeD {ts : List T} (h : allAlike ts = true) : AllAlike (toDs ts) ∧ AlikeAll (toDs ts) := by
  obtain ⟨h1, h2⟩ := allAlike_of h
  rw [toDs_map]
  have a : ∀ d ∈ ts.map toD, ∀ d' ∈ ts.map toD, alike d d' = true := by
    intro d hd d' hd'
    obtain ⟨x, hx, rfl⟩ := List.mem_map.mp hd
    obtain ⟨y, hy, rfl⟩ := List.mem_map.mp hd'
    exact alike_of x y (h2 x hx y hy)
  refine ⟨a, a, fun d hd => ?_⟩
  obtain ⟨x, hx, rfl⟩ := List.mem_map.mp hd
  exact alike_ne (h2 x hx x hx)
theorem fold_min : ∀ (xs : List T) (x : T), (∀ y ∈ x :: xs, flat y = true) → (∀ y ∈ x :: xs, ∀ z ∈ x :: xs, alikeT y z = true) →
    toD (xs.foldl (fun a y => if ltB y a then y else a) x) = minD (toD x) (xs.map toD) ∧ xs.foldl (fun a y => if ltB y a then y else a) x ∈ x :: xs
  | [], x, _, _ => ⟨rfl, List.mem_cons_self⟩
  | y :: ys, x, hf, ha => by
    have e : dataLt (toD y) (toD x) = ltB y x := lt_of y x (ha y (by simp) x (by simp)) (hf y (by simp)) (hf x (by simp))
    have sub : ∀ z, z ∈ (if ltB y x then y else x) :: ys → z ∈ x :: y :: ys := by
      intro z hz
      rcases List.mem_cons.mp hz with rfl | hz
      · split <;> simp
      · simp [hz]
    obtain ⟨h1, h2⟩ := fold_min ys (if ltB y x then y else x) (fun z hz => hf z (sub z hz)) (fun z hz w hw => ha z (sub z hz) w (sub w hw))
    refine ⟨?_, sub _ h2⟩
    rw [List.foldl_cons, h1, List.map_cons]
    unfold minD
    rw [List.foldl_cons, e]
    congr 1
    split <;> rfl
theorem fold_max : ∀ (xs : List T) (x : T), (∀ y ∈ x :: xs, flat y = true) → (∀ y ∈ x :: xs, ∀ z ∈ x :: xs, alikeT y z = true) →
    toD (xs.foldl (fun a y => if ltB a y then y else a) x) = maxD (toD x) (xs.map toD) ∧ xs.foldl (fun a y => if ltB a y then y else a) x ∈ x :: xs
  | [], x, _, _ => ⟨rfl, List.mem_cons_self⟩
  | y :: ys, x, hf, ha => by
    have e : dataLt (toD x) (toD y) = ltB x y := lt_of x y (ha x (by simp) y (by simp)) (hf x (by simp)) (hf y (by simp))
    have sub : ∀ z, z ∈ (if ltB x y then y else x) :: ys → z ∈ x :: y :: ys := by
      intro z hz
      rcases List.mem_cons.mp hz with rfl | hz
      · split <;> simp
      · simp [hz]
    obtain ⟨h1, h2⟩ := fold_max ys (if ltB x y then y else x) (fun z hz => hf z (sub z hz)) (fun z hz w hw => ha z (sub z hz) w (sub w hw))
    refine ⟨?_, sub _ h2⟩
    rw [List.foldl_cons, h1, List.map_cons]
    unfold maxD
    rw [List.foldl_cons, e]
    congr 1
    split <;> rfl
theorem Reps.mem {K : PySem.W.Frag} {g : Gs} {vs : List V} {ts : List T} (h : Reps K g vs ts) {v : V} (m : v ∈ vs) : ∃ t, t ∈ ts ∧ Rep K g v t := by
  obtain ⟨i, hi⟩ := List.mem_iff_getElem?.mp m
  obtain ⟨t, h1, h2⟩ := h.get' hi
  exact ⟨t, List.mem_of_getElem? h1, h2⟩
theorem toDs_get {ts : List T} {i : Nat} {d : PyData} (h : (toDs ts)[i]? = some d) : ∃ t, ts[i]? = some t ∧ toD t = d := by
  rw [toDs_map, List.getElem?_map] at h
  cases q : ts[i]? with
  | none => rw [q] at h; cases h
  | some t => rw [q] at h; exact ⟨t, rfl, Option.some.inj h⟩
theorem best_rep {K : PySem.W.Frag} {g : Gs} {xs : List V} {ts : List T} {t : T} (hr : Reps K g xs ts) (hf : ∀ x ∈ ts, ∀ y ∈ ts, alikeT x y = true) (ht : t ∈ ts) {i : Nat} {v : V} (h1 : xs[i]? = some v) (h2 : (toDs ts)[i]? = some (toD t)) : Rep K g v t := by
  obtain ⟨u, h3, h4⟩ := hr.get' h1
  obtain ⟨u', h5, h6⟩ := toDs_get h2
  rw [h3] at h5
  cases h5
  have := toD_inj u t (hf u (List.mem_of_getElem? h3) t ht) h6
  rw [← this]; exact h4
theorem lays_all {ts : List T} (h : ∀ y ∈ ts, flat y = true) : PyData.canLayAll0 (toDs ts) = true := lays_of ts (flats_all.mpr h)
theorem alike_cont {t : T} (h : alikeT t t = true) : isCont t = false := by cases t <;> first | rfl | cases h
section
variable {K : PySem.W.Frag}
theorem f_min_of {sq : PySem.W.Frag → Hp → Addr → List V → Prop} {H0 : Fm} {g : Gs} {own : Own} {env : List Slot} {s : Src} {σ : L2.St} {H : Hp} {a : Addr} {xs : List V} {ts : List T} {t : T} {Q : VK}
    (r : R K H0 g own env s σ H) (hs : sq K H a xs) (hr : Reps K g xs ts) (e : minT ts = some t) (q : PostF K H0 own env s σ t Q g) : rBest sq minD K [.ref a] H Q := by
  cases ts with
  | nil => cases e
  | cons y ys =>
    simp only [minT, Option.ite_none_right_eq_some, Option.some.injEq] at e
    obtain ⟨ha, e⟩ := e
    obtain ⟨f1, f2⟩ := allAlike_of ha
    obtain ⟨m1, m2⟩ := fold_min ys y (fun z hz => (f1 z hz).1) f2
    rw [e] at m1 m2
    have hfl : ∀ z ∈ y :: ys, flat z = true := fun z hz => (f1 z hz).1
    refine ⟨a, xs, toD y, toDs ys, rfl, hs, dps_of r.sub hr (flats_all.mpr hfl), (allAlikeD ha).2, lays_all hfl, ?_, fun i v h1 h2 => ?_⟩
    · have h3 := depths_of (y :: ys) (flats_all.mpr hfl)
      have h4 : depths (y :: ys) ≤ 60 := depths_le.mpr fun z hz => (f1 z hz).2
      have h5 : PyData.depthAll (toD y :: toDs ys) = depths (y :: ys) := h3
      omega
    · rw [toDs_map, ← m1] at h2
      exact q.val r (best_rep hr f2 m2 h1 (by rw [toDs_map] ; exact h2)) (alike_cont (f2 _ m2 _ m2))
theorem f_max_of {sq : PySem.W.Frag → Hp → Addr → List V → Prop} {H0 : Fm} {g : Gs} {own : Own} {env : List Slot} {s : Src} {σ : L2.St} {H : Hp} {a : Addr} {xs : List V} {ts : List T} {t : T} {Q : VK}
    (r : R K H0 g own env s σ H) (hs : sq K H a xs) (hr : Reps K g xs ts) (e : maxT ts = some t) (q : PostF K H0 own env s σ t Q g) : rBest sq maxD K [.ref a] H Q := by
  cases ts with
  | nil => cases e
  | cons y ys =>
    simp only [maxT, Option.ite_none_right_eq_some, Option.some.injEq] at e
    obtain ⟨ha, e⟩ := e
    obtain ⟨f1, f2⟩ := allAlike_of ha
    obtain ⟨m1, m2⟩ := fold_max ys y (fun z hz => (f1 z hz).1) f2
    rw [e] at m1 m2
    have hfl : ∀ z ∈ y :: ys, flat z = true := fun z hz => (f1 z hz).1
    refine ⟨a, xs, toD y, toDs ys, rfl, hs, dps_of r.sub hr (flats_all.mpr hfl), (allAlikeD ha).2, lays_all hfl, ?_, fun i v h1 h2 => ?_⟩
    · have h3 := depths_of (y :: ys) (flats_all.mpr hfl)
      have h4 : depths (y :: ys) ≤ 60 := depths_le.mpr fun z hz => (f1 z hz).2
      have h5 : PyData.depthAll (toD y :: toDs ys) = depths (y :: ys) := h3
      omega
    · rw [toDs_map, ← m1] at h2
      exact q.val r (best_rep hr f2 m2 h1 (by rw [toDs_map] ; exact h2)) (alike_cont (f2 _ m2 _ m2))
theorem f_min : CallF K (rMinA K) (biT .min) := by
  intro H0 g own env s σ H x tx t Q r hx e q
  cases hx with
  | lst h1 h2 => exact .inl (f_min_of r (SqL.of h1) h2 e q)
  | tup h1 h2 => exact .inr (f_min_of r (r.st h1) h2 e q)
  | _ => simp [biT] at e
theorem f_max : CallF K (rMaxA K) (biT .max) := by
  intro H0 g own env s σ H x tx t Q r hx e q
  cases hx with
  | lst h1 h2 => exact .inl (f_max_of r (SqL.of h1) h2 e q)
  | tup h1 h2 => exact .inr (f_max_of r (r.st h1) h2 e q)
  | _ => simp [biT] at e

/-! ### sorted -/
theorem leT_data {a b : T} (h : alikeT b a = true) (fa : flat a = true) (fb : flat b = true) : dataLe false toD a b = leT a b := by
  rw [PySem.W.dataLe_eq]
  show (!dataLt (toD b) (toD a)) = !ltB b a
  rw [lt_of b a h fb fa]
theorem reps_pairs : ∀ {ps : List (V × T)}, (∀ p ∈ ps, Rep K g p.1 p.2) → Reps K g (ps.map Prod.fst) (ps.map Prod.snd)
  | [], _ => .nil
  | p :: ps, h => .cons (h p (by simp)) (reps_pairs fun q hq => h q (by simp [hq]))
theorem zip_rep : ∀ {xs : List V} {ts : List T}, Reps K g xs ts → ∀ p ∈ xs.zip ts, Rep K g p.1 p.2
  | _, _, .nil, p, h => by simp at h
  | _, _, .cons a b, p, h => by
    rw [List.zip_cons_cons] at h
    rcases List.mem_cons.mp h with rfl | h
    · exact a
    · exact zip_rep b p h
/-- the values sorted by their data stand for the trees sorted -/
theorem sort_rep {g : Gs} {xs : List V} {ts : List T} (hr : Reps K g xs ts) (ha : allAlike ts = true) :
    Reps K g (((xs.zip (toDs ts)).mergeSort (dataLe false Prod.snd)).map Prod.fst) (ts.mergeSort leT) := by
  obtain ⟨f1, f2⟩ := allAlike_of ha
  have hlen := hr.length
  -- over pairs of a value and its tree
  have e1 : xs.zip (toDs ts) = (xs.zip ts).map fun p => (p.1, toD p.2) := by
    rw [toDs_map, List.zip_map_right]; rfl
  have hsnd : (xs.zip ts).map Prod.snd = ts := by rw [List.map_snd_zip]; omega
  have hm : ∀ p ∈ xs.zip ts, p.2 ∈ ts := fun p hp => by rw [← hsnd]; exact List.mem_map_of_mem hp
  have e2 : ((xs.zip ts).map fun p => (p.1, toD p.2)).mergeSort (dataLe false Prod.snd) = ((xs.zip ts).mergeSort fun p q => leT p.2 q.2).map fun p => (p.1, toD p.2) := by
    refine (List.map_mergeSort fun p hp q hq => ?_).symm
    have h1 := hm p hp
    have h2 := hm q hq
    exact (leT_data (f2 _ h2 _ h1) (f1 _ h1).1 (f1 _ h2).1).symm
  have e3 : ts.mergeSort leT = ((xs.zip ts).mergeSort fun p q => leT p.2 q.2).map Prod.snd := by
    have z : ((xs.zip ts).mergeSort fun p q => leT p.2 q.2).map Prod.snd = ((xs.zip ts).map Prod.snd).mergeSort leT := List.map_mergeSort fun p hp q hq => rfl
    rw [z, hsnd]
  rw [e1, e2, e3, List.map_map]
  refine reps_pairs (g := g) fun p hp => ?_
  exact zip_rep hr p (List.mem_mergeSort.mp hp)
def rSortA (K : PySem.W.Frag) : List V → Hp → VK → Prop := fun xs H Q => rSortD K xs H Q ∨ (rSort1 K xs H Q ∨
  (∃ (a : Addr) (kvs : List (Key × V)) (ks : List Int), xs = [.ref a] ∧ Rd H a (.dK kvs) ∧ kvs.map (·.1) = ks.map Sum.inl ∧ ks.length < 64 ∧ ∀ (ys : List Int) (p : Addr), ys.Perm ks → ys.Pairwise (· ≤ ·) → H p = none → Q (.ref p) (upd H p (.lst (ys.map V.int)))))
theorem cr_sortA {X : Cx} (hc : X.calm = true) (hu : X.A.units + 80 < cLine) : CallR X (.builtin "sorted") (rSortA X.K) := (cr_sortD hu).or (cr_sort1.or (call_sortedDI hc))
theorem f_sorted : CallF K (rSortA K) (biT .sorted) := by
  intro H0 g own env s σ H x tx t Q r hx e q
  cases hx with
  | lst h1 h2 =>
    rename_i a xs ts
    simp only [biT, Option.map_eq_some_iff] at e
    obtain ⟨us, e, rfl⟩ := e
    unfold sortT at e
    split at e
    · cases e
      cases h2
      exact .inr (.inl ⟨a, [], rfl, SqL.of h1, by decide, fun p hp => q.made r hp (.lst .nil)⟩)
    · cases e
      have hl := h2.length
      exact .inr (.inl ⟨a, xs, rfl, SqL.of h1, by rw [hl]; simp, fun p hp => q.made r hp (.lst h2)⟩)
    · split at e
      · cases e
        rename_i hc
        rw [Bool.and_eq_true, Bool.or_eq_true] at hc
        obtain ⟨ha, hk⟩ := hc
        obtain ⟨f1, f2⟩ := allAlike_of ha
        have hfl : ∀ z ∈ ts, flat z = true := fun z hz => (f1 z hz).1
        refine .inl ⟨a, xs, toDs ts, rfl, SqL.of h1, dps_of r.sub h2 (flats_all.mpr hfl), (allAlikeD ha).1, ?_, fun d hd => ?_, fun p hp => q.made r hp (.lst (sort_rep h2 ha))⟩
        · rcases hk with hk | hk
          · refine .inl fun d hd => ?_
            rw [toDs_map] at hd
            obtain ⟨z, hz, rfl⟩ := List.mem_map.mp hd
            have := List.all_eq_true.mp hk z hz
            cases z with
            | tup ys => cases ys with
              | nil => cases this
              | cons u v => exact ⟨_, _, rfl⟩
            | _ => cases this
          · refine .inr fun d hd => ?_
            rw [toDs_map] at hd
            obtain ⟨z, hz, rfl⟩ := List.mem_map.mp hd
            have := List.all_eq_true.mp hk z hz
            cases z with
            | int i => exact ⟨(fun e => by cases e), fun xs e => by cases e⟩
            | _ => cases this
        · rw [toDs_map] at hd
          obtain ⟨z, hz, rfl⟩ := List.mem_map.mp hd
          rw [depth_of z (hfl z hz)]
          have := (f1 z hz).2
          omega
      · cases e
  | dK h1 h2 =>
    rename_i a kvs ts
    simp only [biT, Option.ite_none_right_eq_some, Option.some.injEq, Bool.and_eq_true, decide_eq_true_eq] at e
    obtain ⟨⟨hl, hi⟩, rfl⟩ := e
    have hks : ∃ ks : List Int, ts.map (·.1) = ks.map Sum.inl ∧ ts.map (fun kv => ofK kv.1) = ks.map T.int := by
      clear h2 q
      induction ts with
      | nil => exact ⟨[], rfl, rfl⟩
      | cons p ts ih =>
        simp only [List.map_cons, List.all_cons, Bool.and_eq_true] at hi
        obtain ⟨ks, k1, k2⟩ := ih (by simp at hl; omega) hi.2
        obtain ⟨k, v⟩ := p
        cases k with
        | inl i => exact ⟨i :: ks, by simp [k1], by rw [List.map_cons, List.map_cons, k2]; rfl⟩
        | inr z => cases hi.1
    obtain ⟨ks, k1, k2⟩ := hks
    have k3 : ∀ {kvs : List (Key × V)} {ts : List (Gh.K × T)} {ks : List Int}, RepK K g kvs ts → ts.map (·.1) = ks.map Sum.inl → kvs.map (·.1) = ks.map Sum.inl := by
      intro kvs ts ks h
      induction ts generalizing kvs ks with
      | nil => intro e; cases h; cases ks with
        | nil => rfl
        | cons _ _ => cases e
      | cons p ts ih =>
        intro e
        cases h with
        | cons a b =>
          cases ks with
          | nil => cases e
          | cons k ks =>
            simp only [List.map_cons, List.cons.injEq] at e
            rw [List.map_cons, List.map_cons, ih b e.2, e.1]; rfl
    refine .inr (.inr ⟨a, kvs, ks, rfl, h1, k3 h2 k1, ?_, fun ys p hp hw hn => ?_⟩)
    · have := congrArg List.length k1
      simp at this; omega
    · rw [k2] at q
      have e4 : (ks.map T.int).mergeSort leT = ys.map T.int := by
        have e5 : (ks.map T.int).mergeSort leT = (ks.mergeSort fun i j => decide (i ≤ j)).map T.int := by
          refine (List.map_mergeSort fun i hi j hj => ?_).symm
          show decide (i ≤ j) = !decide (j < i)
          by_cases h : i ≤ j
          · simp [h]
          · simp [h]; omega
        rw [e5]
        congr 1
        refine List.Perm.eq_of_pairwise (le := (· ≤ ·)) (fun a b _ _ h1 h2 => Int.le_antisymm h1 h2) ?_ hw ((List.mergeSort_perm _ _).trans hp.symm)
        have := List.pairwise_mergeSort (le := fun (i j : Int) => decide (i ≤ j)) (fun a b c h1 h2 => by simp at *; omega) (fun a b => by simp; omega) ks
        exact this.imp fun h => by simpa using h
      rw [e4] at q
      exact q.made r hn (.lst (Reps.ints ys))
  | _ => simp [biT] at e
end
end Gh
set_option linter.all false
set_option maxRecDepth 100000
set_option maxHeartbeats 1000000
namespace Gh
open PySem PySem.Spec PyProof.Rows L2

section
variable {X : Cx}
/-! ### len -/
def rLenA (K : PySem.W.Frag) : List V → Hp → VK → Prop := fun xs H Q => (∃ p ys, xs = [.ref p] ∧ (SqL K H p ys ∨ SqT K H p ys) ∧ Q (.int ys.length) H) ∨ ∃ a kvs, xs = [.ref a] ∧ Rd H a (.dK kvs) ∧ Q (.int kvs.length) H
theorem cr_lenA : CallR X (.builtin "len") (rLenA X.K) := by
  refine call_len_seq.or fun pins s σ H xs us Q I r h => ?_
  obtain ⟨a, kvs, rfl, hd, q⟩ := h
  rw [Vals.ref1 r]
  exact d_len I hd fun t s' I' => ⟨.int kvs.length, H, I', ⟨t, rfl⟩, q⟩
theorem f_len {K : PySem.W.Frag} : CallF K (rLenA K) (biT .len) := by
  intro H0 g own env s σ H x tx t Q r hx e q
  cases hx <;> simp only [biT, Option.some.injEq, reduceCtorEq] at e
  · rename_i h1 h2; subst e; rw [← h2.length] at q; exact .inl ⟨_, _, rfl, .inr (r.st h1), q.val r (.int _) rfl⟩
  · rename_i h1 hn h2; subst e; rw [← h2.length] at q; exact .inl ⟨_, _, rfl, .inr (.inl (.inr ⟨_, r.sub _ _ h1⟩)), q.val r (.int _) rfl⟩
  · rename_i h1 h2; subst e; rw [← h2.length] at q; exact .inl ⟨_, _, rfl, .inl (SqL.of h1), q.val r (.int _) rfl⟩
  · rename_i h1 h2; subst e; rw [← h2.length] at q; exact .inr ⟨_, _, rfl, h1, q.val r (.int _) rfl⟩
/-! ### any, all -/
theorem f_any {K : PySem.W.Frag} : CallF K (rAny K) (biT .any) := by
  intro H0 g own env s σ H x tx t Q r hx e q
  cases hx <;> simp only [biT, Option.map_eq_some_iff, reduceCtorEq] at e
  rename_i h1 h2
  obtain ⟨bs, e, rfl⟩ := e
  have := h2.blsOf e
  subst this
  exact ⟨_, bs, rfl, SqL.of h1, q.val r (.bl _) rfl⟩
theorem f_all {K : PySem.W.Frag} : CallF K (rAll K) (biT .all) := by
  intro H0 g own env s σ H x tx t Q r hx e q
  cases hx <;> simp only [biT, Option.map_eq_some_iff, reduceCtorEq] at e
  rename_i h1 h2
  obtain ⟨bs, e, rfl⟩ := e
  have := h2.blsOf e
  subst this
  exact ⟨_, bs, rfl, SqL.of h1, q.val r (.bl _) rfl⟩
/-! ### tuple, list -/
def rTupOf (K : PySem.W.Frag) : List V → Hp → VK → Prop := fun xs H Q => ∃ p ys, xs = [.ref p] ∧ ((SqL K H p ys ∧ ∀ l, H l = none → Q (.ref l) (upd H l (.tup ys))) ∨ (SqT K H p ys ∧ Q (.ref p) H))
theorem f_tuple {K : PySem.W.Frag} : CallF K (rTupOf K) (biT .tuple) := by
  intro H0 g own env s σ H x tx t Q r hx e q
  cases hx <;> simp only [biT, Option.some.injEq, reduceCtorEq] at e
  · rename_i h1 h2; subst e; exact ⟨_, _, rfl, .inr ⟨r.st h1, q.val r (.tup h1 h2) rfl⟩⟩
  · rename_i h1 h2; subst e; exact ⟨_, _, rfl, .inl ⟨SqL.of h1, fun p hp => q.tup r hp h2⟩⟩
/-- a tuple made of a list: a plain object -/
def rTupPl (K : PySem.W.Frag) : List V → Hp → VK → Prop := fun xs H Q => ∃ p ys, xs = [.ref p] ∧ SqL K H p ys ∧ ∀ l ob, H l = none → ob.dict = none → Q (.ref l) (upd H l (.frz ob (.tup ys)))
def rListA (K : PySem.W.Frag) : List V → Hp → VK → Prop := fun xs H Q => (∃ p ys, xs = [.ref p] ∧ (SqL K H p ys ∨ SqT K H p ys) ∧ ∀ l, H l = none → Q (.ref l) (upd H l (.lst ys))) ∨
  (∃ d kvs, xs = [V.ref d] ∧ Rd H d (.dT kvs) ∧ ∀ p bs, H p = none → IsKeys H kvs bs → Q (.ref p) (upd H p (.lst (bs.map V.ref))))
theorem cr_listA (hc : X.calm = true) : CallR X (.type "list") (rListA X.K) := call_list_of.or (call_list_dT hc)
theorem R.knows {K : PySem.W.Frag} {H0 : Fm} {own : Own} {env : List Slot} {s : Src} {σ : L2.St} {H : Hp} : ∀ {kvs : List (List Key × V)} {ts : List (List Gh.K × T)} {bs : List Addr} {g : Gs}, R K H0 g own env s σ H → RepD K g kvs ts → IsKeys H kvs bs →
    ∃ g', Le g g' ∧ R K H0 g' own env s σ H ∧ Reps K g' (bs.map V.ref) (ts.map fun kv => .tup (kv.1.map ofK)) := by
  intro kvs ts
  induction ts generalizing kvs with
  | nil =>
    intro bs g r h k
    cases h
    cases k
    exact ⟨g, Le.refl g, r, .nil⟩
  | cons p ts ih =>
    intro bs g r h k
    cases h with
    | cons a b =>
      cases k with
      | cons k1 k2 =>
        obtain ⟨g1, l1, r1, e1⟩ := r.know k1
        obtain ⟨g2, l2, r2, e2⟩ := ih r1 (b.mono l1) k2
        refine ⟨g2, l1.trans l2, r2, .cons (.tup (l2.S _ _ e1) ?_) e2⟩
        have kv : ∀ ks : List Gh.K, Reps K g2 ((ks.map kk).map kV) (ks.map ofK) := by
          intro ks
          induction ks with
          | nil => exact .nil
          | cons k ks ih => exact .cons (rep_ofK k) ih
        exact kv _
theorem f_list {K : PySem.W.Frag} : CallF K (rListA K) (biT .list) := by
  intro H0 g own env s σ H x tx t Q r hx e q
  cases hx <;> simp only [biT, Option.some.injEq, Option.ite_none_right_eq_some, reduceCtorEq] at e
  · rename_i h1 h2; subst e; exact .inl ⟨_, _, rfl, .inr (r.st h1), fun p hp => q.made r hp (.lst h2)⟩
  · rename_i h1 h2; subst e; exact .inl ⟨_, _, rfl, .inl (SqL.of h1), fun p hp => q.made r hp (.lst h2)⟩
  · rename_i h1 h2; subst e
    refine .inr ⟨_, _, rfl, h1, fun p bs hp hk => ?_⟩
    obtain ⟨g', l, r', e'⟩ := r.knows h2 hk
    have q' : PostF K H0 own env s σ (.lst (_ : List T)) Q g' := fun g2 v H2 l2 r2 f2 => q g2 v H2 (l.trans l2) r2 f2
    exact q'.made r' hp (.lst e')
/-! ### sum -/
def rSumA (K : PySem.W.Frag) : List V → Hp → VK → Prop := fun vs H Q => rSum K vs H Q ∨ ∃ (a : Addr) (ns : List Int), vs = [V.ref a] ∧ SqT K H a (ns.map V.int) ∧ Q (.int ns.sum) H
theorem cr_sumA (hc : X.calm = true) : CallR X (.builtin "sum") (rSumA X.K) := by
  refine (cr_sum hc).or fun pins s σ H vs us Q I r h => ?_
  obtain ⟨a, ns, rfl, hs, q⟩ := h
  obtain ⟨its, rv, hl, hz⟩ := I.tuple hs
  rw [Vals.ref1 r]
  have hi := rv.ints
  obtain ⟨xs, e⟩ := hi.allInts.items
  have hn : numsOf (intItems xs).toList = ns := by rw [← e]; exact hi.numsOf
  rw [nums_intItems] at hn
  rw [e] at hl
  refine PySem.W.ktm_sumG (I.ok.hd hc) hl fun h' tk t' hk => ?_
  rw [preSum_eq, List.take_of_length_le (by simp), hn]
  exact ⟨.int ns.sum, H, I.kept (t' := tk) hk, ⟨t', rfl⟩, q⟩
theorem f_sum {K : PySem.W.Frag} : CallF K (rSumA K) (biT .sum) := by
  intro H0 g own env s σ H x tx t Q r hx e q
  cases hx <;> simp only [biT, Option.map_eq_some_iff, reduceCtorEq] at e
  · rename_i h1 h2
    obtain ⟨ns, e, rfl⟩ := e
    have := h2.intsOf e
    subst this
    exact .inr ⟨_, ns, rfl, r.st h1, q.val r (.int _) rfl⟩
  · rename_i h1 h2
    obtain ⟨ns, e, rfl⟩ := e
    have := h2.intsOf e
    subst this
    exact .inl ⟨_, ns, rfl, SqL.of h1, q.val r (.int _) rfl⟩
/-! ### abs, int -/
theorem f_abs {K : PySem.W.Frag} : CallF K (fun xs H Q => ∃ i, xs = [.int i] ∧ Q (.int (if i < 0 then -i else i)) H) (biT .abs) := by
  intro H0 g own env s σ H x tx t Q r hx e q
  cases hx <;> simp only [biT, Option.some.injEq, reduceCtorEq] at e
  subst e
  exact ⟨_, rfl, q.val r (.int _) rfl⟩
theorem f_int {K : PySem.W.Frag} : CallF K (fun xs H Q => (∃ i, xs = [.int i] ∧ Q (.int i) H) ∨ ∃ k, xs = [.bl k] ∧ Q (.int (if k then 1 else 0)) H) (biT .int) := by
  intro H0 g own env s σ H x tx t Q r hx e q
  cases hx <;> simp only [biT, Option.some.injEq, reduceCtorEq] at e
  · subst e; exact .inr ⟨_, rfl, q.val r (.int _) rfl⟩
  · subst e; exact .inl ⟨_, rfl, q.val r (.int _) rfl⟩
/-! ### dict -/
/-- pairs of a key and a value, each a tuple -/
def IsPairs (K : PySem.W.Frag) (H : Hp) : List V → List (Key × V) → Prop := Paired fun x kv => ∃ p, x = .ref p ∧ SqT K H p [kV kv.1, kv.2]
def rDictA (K : PySem.W.Frag) : List V → Hp → VK → Prop := fun xs H Q =>
  (∃ a kvs, xs = [.ref a] ∧ Rd H a (.dK kvs) ∧ ∀ p, H p = none → Q (.ref p) (upd H p (.dK kvs))) ∨
  (∃ a xs' kvs, xs = [.ref a] ∧ (SqL K H a xs' ∨ ∃ ob, H a = some (.frz ob (.tup xs')) ∧ ob.dict = none) ∧ IsPairs K H xs' kvs ∧ ∀ p, H p = none → Q (.ref p) (upd H p (.dK (mergeK [] kvs))))

theorem pairs_items {pins : List (Addr × Obj)} {σ : L2.St} {H : Hp} {s : Shared} (I : Inv X pins σ H s) : ∀ {xs : List V} {kvs : List (Key × V)} {its : List Value}, IsPairs X.K H xs kvs → Vals xs its →
    ∃ (ps : List (Value × Value)) (rs : List (Key × Value)), its.length = ps.length ∧ (∀ (j : Nat) (k v : Value), ps[j]? = some (k, v) → ∃ p : Addr, its[j]? = some (Value.ref p) ∧ s.heap.IsTuple p #[k, v]) ∧ KV kvs rs ∧ rs.length = ps.length ∧
      ∀ (i : Nat) (key v : Value), ps[i]? = some (key, v) → ∃ k : Key, rs[i]? = some (k, v) ∧ (mixKind X.prog X.w).is k key = true := by
  intro xs
  induction xs with
  | nil =>
    intro kvs its h v
    cases h
    cases v
    exact ⟨[], [], rfl, (fun j k v e => by simp at e), .nil, rfl, fun i k v e => by simp at e⟩
  | cons x xs ih =>
    intro kvs its h v
    cases h with
    | cons a b =>
      cases v with
      | cons r t =>
        rename_i kv kvs u us
        obtain ⟨p, rfl, hp⟩ := a
        cases r
        obtain ⟨ps, rs, h1, h2, h3, h4, h5⟩ := ih b t
        obtain ⟨jt, rj, tj, _⟩ := I.tuple hp
        cases rj with
        | cons r1 r2 =>
          cases r2 with
          | cons r2 r3 =>
            cases r3
            rename_i u1 u2
            refine ⟨(u1, u2) :: ps, (kv.1, u2) :: rs, by simp [h1], fun j k v e => ?_, .cons ⟨rfl, r2⟩ h3, by simp [h4], fun i key v e => ?_⟩
            · cases j with
              | zero =>
                simp only [List.getElem?_cons_zero, Option.some.injEq, Prod.mk.injEq] at e
                obtain ⟨rfl, rfl⟩ := e
                exact ⟨p, rfl, tj⟩
              | succ j => simpa using h2 j k v (by simpa using e)
            · cases i with
              | zero =>
                simp only [List.getElem?_cons_zero, Option.some.injEq, Prod.mk.injEq] at e
                obtain ⟨rfl, rfl⟩ := e
                exact ⟨kv.1, rfl, kV_is r1⟩
              | succ i => simpa using h5 i key v (by simpa using e)
theorem cr_dictA (hc : X.calm = true) : CallR X (.type "dict") (rDictA X.K) := by
  intro pins s σ H xs us Q I r h
  rcases h with ⟨a, kvs, rfl, hd, q⟩ | ⟨a, xs', kvs, rfl, hs, hp, q⟩
  · rw [Vals.ref1 r]
    obtain ⟨z, hS, vs, rel, dd⟩ := dk_rd I.hok hd
    refine PySem.kt_call_dict hS dd (by rw [← rel.length]; exact z) fun h' hm hb => ?_
    have kp : ∀ b o, s.heap.get? b = some o → h'.get? b = some o := fun b o e => by
      rw [hb.2 b (Nat.ne_of_lt (Heap.lt_size e))]
      exact Heap.get?_push_of_some _ e
    have hbig := I.big
    exact ⟨.ref _, _, I.laid (t' := s.toks) (o := .dK kvs) kp (Nat.le_refl _) ⟨z, beq_eq_false_iff_ne.mpr (Nat.ne_of_gt hbig), vs, rel, hm⟩, rfl, q _ (I.hok.fresh (Nat.le_refl _))⟩
  · rw [Vals.ref1 r]
    have fin : ∀ (T : String) (its : List Value), Vals xs' its → xs'.length ≤ sizeLine → ∀ (fp : List Addr) (n : Nat) (ps : List (Value × Value)) (rs : List (Key × Value)) (OK : Heap → Prop),
        PairArg X.prog X.w T a fp [] ps.length (PairRel ps) OK → OK s.heap → KV kvs rs → rs.length = ps.length → ps.length = its.length → (∀ (i : Nat) (key v : Value), ps[i]? = some (key, v) → ∃ k : Key, rs[i]? = some (k, v) ∧ (mixKind X.prog X.w).is k key = true) →
        wpAny (model X.prog X.w) X.A (call (.type "dict") [.ref a]) (EP X pins σ Q) X.xe s := by
      intro T its rv hz fp n ps rs OK P ok rel hl hl2 hk
      have hlen := rv.length
      refine PySem.call_dict_pairs (knd := mixKind X.prog X.w) (kvs := rs) P (I.ok.hd hc) ok ⟨hl, hk⟩ (by omega) fun h' tk hd' kp => ?_
      have hbig := I.big
      have zl := length_mergeK kvs ([] : List (Key × V))
      have zl2 := rel.length
      exact ⟨.ref _, _, I.laid (t' := tk) (o := .dK (mergeK [] kvs)) (fun b o e => kp b o (by simp) e) (Nat.le_refl _) ⟨by rw [List.length_nil] at zl; omega, beq_eq_false_iff_ne.mpr (Nat.ne_of_gt hbig), _, KV.merge rel .nil, hd'⟩, rfl, q _ (I.hok.fresh (Nat.le_refl _))⟩
    rcases hs with hs | ⟨ob, hs, hn⟩
    · obtain ⟨its, rv, ⟨o, n, e1, e2, e3, e4⟩, hz⟩ := I.list hs
      obtain ⟨ps, rs, h1, h2, h3, h4, h5⟩ := pairs_items I hp rv
      refine fin "list" its rv hz _ 0 ps rs _ (PairArg.list a its.toArray (fun (j : Nat) => match its[j]? with | some (Value.ref p) => p | _ => 0) ps) ⟨⟨o, n, e1, e2, e3, e4⟩, by simpa using h1, fun j k v e => ?_⟩ h3 h4 h1.symm h5
      obtain ⟨p, p1, p2⟩ := h2 j k v e
      dsimp only
      rw [p1]
      exact ⟨by simpa using p1, .inl p2⟩
    · obtain ⟨e1, z, its, rv, o, e2, e3, n, e4⟩ := (show ObjOk X.prog X.w H s.heap a (.frz ob (.tup xs')) from I.hok a _ hs)
      rw [e1] at e2
      cases e2
      obtain ⟨ps, rs, h1, h2, h3, h4, h5⟩ := pairs_items I hp rv
      refine fin "tuple" its rv z _ 0 ps rs _ (PairArg.tuple a its.toArray (fun (j : Nat) => match its[j]? with | some (Value.ref p) => p | _ => 0) ps) ⟨⟨_, n, e1, e3, hn, e4⟩, by simpa using h1, fun j k v e => ?_⟩ h3 h4 h1.symm h5
      obtain ⟨p, p1, p2⟩ := h2 j k v e
      dsimp only
      rw [p1]
      exact ⟨by simpa using p1, .inl p2⟩
theorem pairs_of {K : PySem.W.Frag} {g : Gs} {H : Hp} (sub : ∀ a o, g.S a = some o → H a = some o) : ∀ {xs : List V} {ts : List T} {kvs : List (Gh.K × T)}, Reps K g xs ts → pairsOf ts = some kvs → ∃ ks, IsPairs K H xs ks ∧ RepK K g ks kvs
  | _, _, _, .nil, e => by cases e; exact ⟨[], .nil, .nil⟩
  | _, _, _, .cons (t := t) r b, e => by
    cases r with
    | tup h1 h2 =>
      rename_i ts' a us ws
      match ws, h2, e with
      | [p, q], h2, e =>
        cases h2 with
        | cons r1 h3 =>
          cases h3 with
          | cons r2 h4 =>
            cases h4
            simp only [pairsOf] at e
            split at e
            · cases e
            · rename_i k hk
              simp only [Option.map_eq_some_iff] at e
              obtain ⟨kv', e', rfl⟩ := e
              obtain ⟨ks, z1, z2⟩ := pairs_of sub b e'
              have ek := keyK_rep r1 hk
              subst ek
              exact ⟨(kk k, _) :: ks, .cons ⟨a, rfl, SqT.of (sub _ _ h1)⟩ z1, .cons r2 z2⟩
      | [], _, e => simp [pairsOf] at e
      | [_], _, e => simp [pairsOf] at e
      | _ :: _ :: _ :: _, _, e => simp [pairsOf] at e
    | _ => simp [pairsOf] at e
theorem f_dict {K : PySem.W.Frag} : CallF K (rDictA K) (biT .dict) := by
  intro H0 g own env s σ H x tx t Q r hx e q
  cases hx <;> simp only [biT, Option.some.injEq, Option.map_eq_some_iff, reduceCtorEq] at e
  · rename_i h1 hn h2
    obtain ⟨kvs, e, rfl⟩ := e
    obtain ⟨ks, z1, z2⟩ := pairs_of r.sub h2 e
    exact .inr ⟨_, _, ks, rfl, .inr ⟨_, r.sub _ _ h1, hn⟩, z1, fun p hp => q.made r hp (.dK (merge_rep z2 .nil))⟩
  · rename_i h1 h2
    obtain ⟨kvs, e, rfl⟩ := e
    obtain ⟨ks, z1, z2⟩ := pairs_of r.sub h2 e
    exact .inr ⟨_, _, ks, rfl, .inl (SqL.of h1), z1, fun p hp => q.made r hp (.dK (merge_rep z2 .nil))⟩
  · rename_i h1 h2
    subst e
    exact .inl ⟨_, _, rfl, h1, fun p hp => q.made r hp (.dK h2)⟩
end
end Gh
set_option linter.all false
set_option maxRecDepth 100000
set_option maxHeartbeats 1000000
namespace Gh
open PySem PySem.Spec PyProof.Rows L2

def Val (K : PySem.W.Frag) (m : Bool) (g : Gs) (own : Own) (env : List Slot) (σ : L2.St) (v : V) (t : T) : Prop := if m = true then ValP K g own env σ v t else Rep K g v t
section
variable (K : PySem.W.Frag) (Φ : String → List T → Src → Option (T × Src))
def tE (e : E) (m : Bool) : TE := fun σ H Q => ∃ H0 g own env s t s', R K H0 g own env s σ H ∧ evE Φ e m env s = some (t, s') ∧ ∀ g' v H', Le g g' → R K H0 g' own env s' σ H' → Val K m g' own env σ v t → Q v H'
def tF (e : E) : TE := fun σ H Q => ∃ H0 g own env s t s', R K H0 g own env s σ H ∧ evE Φ e false env s = some (t, s') ∧ ∀ g' v H', Le g g' → R K H0 g' own env s' σ H' → FrV K g' own H0 H' v t → Q v H'
def tB (e : E) : TT := fun σ H Q => ∃ H0 g own env s b s', R K H0 g own env s σ H ∧ evE Φ e true env s = some (.bl b, s') ∧ ∀ g' H', Le g g' → R K H0 g' own env s' σ H' → Q b H'
def tEs (es : List E) : TA := fun σ H Q => ∃ H0 g own env s ts s', R K H0 g own env s σ H ∧ evEs Φ es env s = some (ts, s') ∧ ∀ g' vs H', Le g g' → R K H0 g' own env s' σ H' → Reps K g' vs ts → Q vs H'
def tTs (es : List E) : TA := fun σ H Q => ∃ H0 g own env s ts s', R K H0 g own env s σ H ∧ evTs Φ es true env s = some (ts, s') ∧ ∀ g' vs H', Le g g' → R K H0 g' own env s' σ H' → Paired (ValP K g' own env σ) vs ts → Q vs H'
end
theorem _root_.L2.PE.imp {X : Cx} {x : Expr} {t t' : TE} (h : PE X x t) (w : ∀ σ H Q, t' σ H Q → t σ H Q) : PE X x t' := ⟨fun pins s σ H Q I q => h.run pins s σ H Q I (w _ _ _ q)⟩
theorem _root_.L2.PT.imp {X : Cx} {x : Expr} {t t' : TT} (h : PT X x t) (w : ∀ σ H Q, t' σ H Q → t σ H Q) : PT X x t' := ⟨fun pins s σ H Q I q => h.run pins s σ H Q I (w _ _ _ q)⟩
theorem _root_.L2.PW.imp {X : Cx} {x : Expr} {t t' : TT} (h : PW X x t) (w : ∀ σ H Q, t' σ H Q → t σ H Q) : PW X x t' := ⟨fun W pins s σ H Q I q => h.run W pins s σ H Q I (w _ _ _ q)⟩
theorem _root_.L2.PA.imp {X : Cx} {x : List Expr} {t t' : TA} (h : PA X x t) (w : ∀ σ H Q, t' σ H Q → t σ H Q) : PA X x t' := ⟨fun pos pins s σ H Q I q => h.run pos pins s σ H Q I (w _ _ _ q)⟩
theorem _root_.L2.PS.imp {X : Cx} {x : Stmt} {t t' : TS} (h : PS X x t) (w : ∀ D σ H, t' D σ H → t D σ H) : PS X x t' := ⟨fun pins s σ H D I q => h.run pins s σ H D I (w _ _ _ q)⟩
theorem _root_.L2.PSs.imp {X : Cx} {x : List Stmt} {t t' : TS} (h : PSs X x t) (w : ∀ D σ H, t' D σ H → t D σ H) : PSs X x t' := ⟨fun pins s σ H D I q => h.run pins s σ H D I (w _ _ _ q)⟩

section
variable {X : Cx} {Φ : String → List T → Src → Option (T × Src)} {x y z : Expr} {a b c : E} {pos : Pos}
theorem Val.ofRep {K : PySem.W.Frag} {m : Bool} {g : Gs} {own : Own} {env : List Slot} {σ : L2.St} {v : V} {t : T} (h : Rep K g v t) : Val K m g own env σ v t := by
  cases m
  · exact h
  · exact .inl h
/-- a term whose value is new or a scalar -/
theorem tE_of {m : Bool} (e : E) (hm : ∀ env s, evE Φ e m env s = evE Φ e false env s) (h : PE X x (tF X.K Φ e)) : PE X x (tE X.K Φ e m) := h.imp fun σ H Q ⟨H0, g, own, env, s, t, s', r, e1, q⟩ =>
  ⟨H0, g, own, env, s, t, s', r, by rw [← hm]; exact e1, PostF.of fun g' v H' l r' p => q g' v H' l r' (Val.ofRep p)⟩
/-- a value that nobody changes, as an operand -/
theorem tE_true {e : E} (hm : ∀ env s, evE Φ e true env s = evE Φ e false env s) (h : PE X x (tE X.K Φ e false)) : PE X x (tE X.K Φ e true) := h.imp fun σ H Q ⟨H0, g, own, env, s, t, s', r, e1, q⟩ =>
  ⟨H0, g, own, env, s, t, s', r, by rw [← hm]; exact e1, fun g' v H' l r' p => q g' v H' l r' (.inl p)⟩
/-- a truth value, as a test -/
theorem tB_of {e : E} (h : PE X x (tE X.K Φ e true)) (he : ∀ whole, isTrue x X.env whole = (do let v ← whole; standAt x.pos; holding [v] (truthy v))) : PT X x (tB X.K Φ e) := (pt_val h he).imp fun σ H Q ⟨H0, g, own, env, s, b, s', r, e1, q⟩ =>
  ⟨H0, g, own, env, s, .bl b, s', r, e1, fun g' v H' l r' p => by
    have z := r'.val (show ValP _ _ _ _ _ _ _ from p)
    cases z
    exact ⟨b, rfl, q g' H' l r'⟩⟩

/-! ### names and constants -/
theorem s_var {i : Nat} {m : Bool} (h : PE X x (tVar i)) : PE X x (tE X.K Φ (.var i) m) := h.imp fun σ H Q ⟨H0, g, own, env, s, t, s', r, e, q⟩ => by
  simp only [evE] at e
  have sl : ∀ w, env[i]? = some w → ∃ o, σ[i]? = some o ∧ SlotR X.K g own H i o w := fun w hw => by
    have hi : i < σ.length := by rw [r.len]; exact (List.getElem?_eq_some_iff.mp hw).1
    exact ⟨σ[i], List.getElem?_eq_getElem hi, r.slot i _ w (List.getElem?_eq_getElem hi) hw⟩
  split at e
  · rename_i u hu
    cases e
    obtain ⟨o, ho, hs⟩ := sl _ hu
    cases hs with
    | sh z => exact ⟨_, ho, q g _ H (Le.refl g) r (Val.ofRep z)⟩
  · rename_i u hu
    cases m <;> simp at e
    obtain ⟨rfl, rfl⟩ := e
    obtain ⟨o, ho, hs⟩ := sl _ hu
    cases hs with
    | ow z1 z2 z3 => exact ⟨_, ho, q g _ H (Le.refl g) r (.inr ⟨i, _, ho, hu, rfl, fun u h => by cases h⟩)⟩
  · rename_i u hu
    cases m <;> simp at e
    obtain ⟨rfl, rfl⟩ := e
    obtain ⟨o, ho, hs⟩ := sl _ hu
    cases hs with
    | lk =>
      obtain ⟨a, _, _, _, _, e2, _⟩ := r.lkd i _ hu
      exact ⟨_, e2, q g _ H (Le.refl g) r (.inr ⟨i, _, e2, hu, rfl, fun u h => by cases h⟩)⟩
  · cases e
theorem s_const {v : V} {e : E} {t : T} (hv : ∀ g, Rep X.K g v t) (hc : isCont t = false) (he : ∀ env s, evE Φ e false env s = some (t, s)) (h : PE X x (tC v)) : PE X x (tF X.K Φ e) := h.imp fun σ H Q ⟨H0, g, own, env, s, t', s', r, e1, q⟩ => by
  rw [he] at e1
  cases e1
  exact q g v H (Le.refl g) r (.inl ⟨hc, hv g⟩)

/-! ### operators -/
theorem s_bin {op : Operator} {o : Op} {rr : R2} (ho : OpR X (binaryOp op) rr) (hf : OpF X.K rr (binT o)) (ha : PE X x (tE X.K Φ a true)) (hb : PE X y (tE X.K Φ b true)) : PE X (.BinOp x op y pos) (tF X.K Φ (.bin o a b)) :=
  (pe_op ho ha hb).imp fun σ H Q ⟨H0, g, own, env, s, t, s', r, e, q⟩ => by
    simp only [evE] at e
    split at e
    · cases e
    · rename_i tx s1 e1
      split at e
      · cases e
      · rename_i ty s2 e2
        simp only [Option.map_eq_some_iff] at e
        obtain ⟨t', e3, e4⟩ := e
        cases e4
        refine ⟨H0, g, own, env, s, tx, s1, r, e1, fun g1 v H1 l1 r1 p1 => ?_⟩
        refine ⟨H0, g1, own, env, s1, ty, _, r1, e2, fun g2 u H2 l2 r2 p2 => ?_⟩
        exact hf r2 (r2.val (ValP.mono l2 (show ValP _ _ _ _ _ _ _ from p1))) (r2.val (show ValP _ _ _ _ _ _ _ from p2)) e3 fun g3 w H3 l3 r3 f3 => q g3 w H3 (l1.trans (l2.trans l3)) r3 f3
theorem s_cmp {op : CmpOp} {o : Cm} {rr : R2} (ho : OpR X (compareOp op) rr) (hf : CmF X.K rr (cmpT o)) (ha : PE X x (tE X.K Φ a true)) (hb : PE X y (tE X.K Φ b true)) (hm : behindInMarks op y = false) : PE X (.Compare x [op] [y] pos) (tF X.K Φ (.cmp o a b)) :=
  (pe_cmpR ho ha hb hm).imp fun σ H Q ⟨H0, g, own, env, s, t, s', r, e, q⟩ => by
    simp only [evE] at e
    split at e
    · cases e
    · rename_i tx s1 e1
      split at e
      · cases e
      · rename_i ty s2 e2
        simp only [Option.map_eq_some_iff] at e
        obtain ⟨t', e3, e4⟩ := e
        cases e4
        refine ⟨H0, g, own, env, s, tx, s1, r, e1, fun g1 v H1 l1 r1 p1 => ?_⟩
        refine ⟨H0, g1, own, env, s1, ty, _, r1, e2, fun g2 u H2 l2 r2 p2 => ?_⟩
        exact hf r2 (r2.val (ValP.mono l2 (show ValP _ _ _ _ _ _ _ from p1))) (r2.val (show ValP _ _ _ _ _ _ _ from p2)) (by simp only [e3]; rfl) fun g3 w H3 l3 r3 f3 => q g3 w H3 (l1.trans (l2.trans l3)) r3 f3
theorem s_cmpB {op : CmpOp} {o : Cm} {rr : R2} (ho : OpR X (compareOp op) rr) (hf : CmF X.K rr (cmpT o)) (ha : PE X x (tE X.K Φ a true)) (hb : PE X y (tE X.K Φ b true)) (hm : behindInMarks op y = false) : PT X (.Compare x [op] [y] pos) (tB X.K Φ (.cmp o a b)) :=
  (pt_cmpR ho ha hb hm).imp fun σ H Q ⟨H0, g, own, env, s, t, s', r, e, q⟩ => by
    simp only [evE] at e
    split at e
    · cases e
    · rename_i tx s1 e1
      split at e
      · cases e
      · rename_i ty s2 e2
        simp only [Option.map_eq_some_iff] at e
        obtain ⟨t', e3, e4⟩ := e
        cases e4
        refine ⟨H0, g, own, env, s, tx, s1, r, e1, fun g1 v H1 l1 r1 p1 => ?_⟩
        refine ⟨H0, g1, own, env, s1, ty, _, r1, e2, fun g2 u H2 l2 r2 p2 => ?_⟩
        refine hf (t := .bl t) r2 (r2.val (ValP.mono l2 (show ValP _ _ _ _ _ _ _ from p1))) (r2.val (show ValP _ _ _ _ _ _ _ from p2)) (by simp only [e3]; rfl) fun g3 w H3 l3 r3 f3 => ?_
        rcases f3 with ⟨_, f3⟩ | ⟨p, oo, _, _, f3, _⟩
        · cases f3
          exact ⟨t, rfl, q g3 H3 (l1.trans (l2.trans l3)) r3⟩
        · cases f3
/-- x is None, x is not None -/
theorem rep_non {K : PySem.W.Frag} {g : Gs} {H : Hp} {v : V} {t : T} (h : RepT K g H v t) : decide (v = V.non) = (match t with | .non => true | _ => false) := by cases h <;> rfl
theorem s_isN {neg : Bool} {op : CmpOp} {j : Nat} {p' : Pos} (hop : op = if neg then .IsNot else .Is) (ha : PE X x (tE X.K Φ a true)) : PE X (.Compare x [op] [.Constant .none j p'] pos) (tF X.K Φ (.isN neg a)) ∧ PT X (.Compare x [op] [.Constant .none j p'] pos) (tB X.K Φ (.isN neg a)) := by
  have key : ∀ σ H (Q : VK), tF X.K Φ (.isN neg a) σ H Q → tE X.K Φ a true σ H (fun v H1 => Q (.bl (if neg then !decide (v = .non) else decide (v = .non))) H1) := by
    rintro σ H Q ⟨H0, g, own, env, s, t, s', r, e, q⟩
    simp only [evE] at e
    cases e1 : evE Φ a true env s with
    | none => rw [e1] at e; cases e
    | some p =>
      obtain ⟨tx, s1⟩ := p
      rw [e1] at e
      refine ⟨H0, g, own, env, s, tx, s1, r, e1, fun g1 v H1 l1 r1 p1 => ?_⟩
      have z := rep_non (r1.val (show ValP _ _ _ _ _ _ _ from p1))
      show Q (V.bl (if neg = true then !decide (v = .non) else decide (v = .non))) H1
      rw [z]
      cases tx <;> cases neg <;> simp at e <;> obtain ⟨rfl, rfl⟩ := e <;> exact q g1 _ H1 l1 r1 (.inl ⟨rfl, .bl _⟩)
  have keyB : ∀ σ H (Q : Bool → Hp → Prop), tB X.K Φ (.isN neg a) σ H Q → tE X.K Φ a true σ H (fun v H1 => Q (if neg then !decide (v = .non) else decide (v = .non)) H1) := by
    rintro σ H Q ⟨H0, g, own, env, s, t, s', r, e, q⟩
    simp only [evE] at e
    cases e1 : evE Φ a true env s with
    | none => rw [e1] at e; cases e
    | some p =>
      obtain ⟨tx, s1⟩ := p
      rw [e1] at e
      refine ⟨H0, g, own, env, s, tx, s1, r, e1, fun g1 v H1 l1 r1 p1 => ?_⟩
      have z := rep_non (r1.val (show ValP _ _ _ _ _ _ _ from p1))
      show Q (if neg = true then !decide (v = .non) else decide (v = .non)) H1
      rw [z]
      cases tx <;> cases neg <;> simp at e <;> obtain ⟨rfl, rfl⟩ := e <;> exact q g1 H1 l1 r1
  cases neg with
  | false =>
    subst hop
    exact ⟨(pe_cmp (pc_isN ha) (nobehind _ (by decide) (by decide))).imp fun σ H Q h => key σ H Q h, (pt_cmp (pc_isN ha) (nobehind _ (by decide) (by decide))).imp fun σ H Q h => by
      obtain ⟨H0, g, own, env, s, t, s', r, e1, q⟩ := keyB σ H Q h
      exact ⟨H0, g, own, env, s, t, s', r, e1, fun g' v H' l r' p => ⟨_, rfl, q g' v H' l r' p⟩⟩⟩
  | true =>
    subst hop
    exact ⟨(pe_cmp (pc_notN ha) (nobehind _ (by decide) (by decide))).imp fun σ H Q h => key σ H Q h, (pt_cmp (pc_notN ha) (nobehind _ (by decide) (by decide))).imp fun σ H Q h => by
      obtain ⟨H0, g, own, env, s, t, s', r, e1, q⟩ := keyB σ H Q h
      exact ⟨H0, g, own, env, s, t, s', r, e1, fun g' v H' l r' p => ⟨_, rfl, q g' v H' l r' p⟩⟩⟩
/-! ### not, and, or, if -/
theorem s_notB (ha : PT X x (tB X.K Φ a)) : PT X (.UnaryOp .Not x pos) (tB X.K Φ (.not a)) := (pt_not ha).imp fun σ H Q ⟨H0, g, own, env, s, t, s', r, e, q⟩ => by
  simp only [evE] at e
  cases e1 : evE Φ a true env s with
  | none => rw [e1] at e; cases e
  | some p =>
    obtain ⟨tx, s1⟩ := p
    rw [e1] at e
    cases tx with
    | bl b =>
      cases e
      exact ⟨H0, g, own, env, s, b, _, r, e1, fun g' H' l r' => q g' H' l r'⟩
    | _ => cases e
theorem s_not (ha : PE X x (tE X.K Φ a true)) : PE X (.UnaryOp .Not x pos) (tF X.K Φ (.not a)) := (pe_not ha).imp fun σ H Q ⟨H0, g, own, env, s, t, s', r, e, q⟩ => by
  simp only [evE] at e
  cases e1 : evE Φ a true env s with
  | none => rw [e1] at e; cases e
  | some p =>
    obtain ⟨tx, s1⟩ := p
    rw [e1] at e
    cases tx with
    | bl b =>
      cases e
      refine ⟨H0, g, own, env, s, .bl b, _, r, e1, fun g' v H' l r' p => ?_⟩
      have z := r'.val (show ValP _ _ _ _ _ _ _ from p)
      cases z
      exact ⟨b, rfl, q g' _ H' l r' (.inl ⟨rfl, .bl _⟩)⟩
    | _ => cases e
theorem s_and {rest : List Expr} (ha : PE X x (tE X.K Φ a true)) (hb : PE X (.BoolOp .And (y :: rest) pos) (tE X.K Φ b false)) : PE X (.BoolOp .And (x :: y :: rest) pos) (tE X.K Φ (.and a b) false) := (pe_and ha hb).imp fun σ H Q ⟨H0, g, own, env, s, t, s', r, e, q⟩ => by
  simp only [evE] at e
  cases e1 : evE Φ a true env s with
  | none => rw [e1] at e; cases e
  | some p =>
    obtain ⟨tx, s1⟩ := p
    rw [e1] at e
    cases tx with
    | bl b =>
      cases b with
      | true =>
        refine ⟨H0, g, own, env, s, .bl true, _, r, e1, fun g1 v H1 l1 r1 p1 => ?_⟩
        have z := r1.val (show ValP _ _ _ _ _ _ _ from p1)
        cases z
        exact ⟨true, rfl, H0, g1, own, env, s1, t, s', r1, e, fun g' v H' l r' p => q g' v H' (l1.trans l) r' p⟩
      | false =>
        cases e
        refine ⟨H0, g, own, env, s, .bl false, _, r, e1, fun g1 v H1 l1 r1 p1 => ?_⟩
        have z := r1.val (show ValP _ _ _ _ _ _ _ from p1)
        cases z
        exact ⟨false, rfl, q g1 _ H1 l1 r1 (.bl false)⟩
    | _ => cases e
theorem s_or {rest : List Expr} (ha : PE X x (tE X.K Φ a true)) (hb : PE X (.BoolOp .Or (y :: rest) pos) (tE X.K Φ b false)) : PE X (.BoolOp .Or (x :: y :: rest) pos) (tE X.K Φ (.or a b) false) := (pe_or ha hb).imp fun σ H Q ⟨H0, g, own, env, s, t, s', r, e, q⟩ => by
  simp only [evE] at e
  cases e1 : evE Φ a true env s with
  | none => rw [e1] at e; cases e
  | some p =>
    obtain ⟨tx, s1⟩ := p
    rw [e1] at e
    cases tx with
    | bl b =>
      cases b with
      | true =>
        cases e
        refine ⟨H0, g, own, env, s, .bl true, _, r, e1, fun g1 v H1 l1 r1 p1 => ?_⟩
        have z := r1.val (show ValP _ _ _ _ _ _ _ from p1)
        cases z
        exact ⟨true, rfl, q g1 _ H1 l1 r1 (.bl true)⟩
      | false =>
        refine ⟨H0, g, own, env, s, .bl false, _, r, e1, fun g1 v H1 l1 r1 p1 => ?_⟩
        have z := r1.val (show ValP _ _ _ _ _ _ _ from p1)
        cases z
        exact ⟨false, rfl, H0, g1, own, env, s1, t, s', r1, e, fun g' v H' l r' p => q g' v H' (l1.trans l) r' p⟩
    | _ => cases e
theorem s_andB {rest : List Expr} (ha : PT X x (tB X.K Φ a)) (hb : PW X (.BoolOp .And (y :: rest) pos) (tB X.K Φ b)) (hm : ∀ env s r, evE Φ b false env s = some r → evE Φ b true env s = some r) : PW X (.BoolOp .And (x :: y :: rest) pos) (tB X.K Φ (.and a b)) := (pw_and ha hb).imp fun σ H Q ⟨H0, g, own, env, s, t, s', r, e, q⟩ => by
  simp only [evE] at e
  cases e1 : evE Φ a true env s with
  | none => rw [e1] at e; cases e
  | some p =>
    obtain ⟨tx, s1⟩ := p
    rw [e1] at e
    cases tx with
    | bl b =>
      cases b with
      | true =>
        exact ⟨H0, g, own, env, s, true, s1, r, e1, fun g1 H1 l1 r1 => by
          simp only [if_true]
          exact ⟨H0, g1, own, env, s1, t, s', r1, hm _ _ _ e, fun g' H' l r' => q g' H' (l1.trans l) r'⟩⟩
      | false =>
        cases e
        exact ⟨H0, g, own, env, s, false, _, r, e1, fun g1 H1 l1 r1 => q g1 H1 l1 r1⟩
    | _ => cases e
theorem s_orB {rest : List Expr} (ha : PT X x (tB X.K Φ a)) (hb : PW X (.BoolOp .Or (y :: rest) pos) (tB X.K Φ b)) (hm : ∀ env s r, evE Φ b false env s = some r → evE Φ b true env s = some r) : PW X (.BoolOp .Or (x :: y :: rest) pos) (tB X.K Φ (.or a b)) := (pw_or ha hb).imp fun σ H Q ⟨H0, g, own, env, s, t, s', r, e, q⟩ => by
  simp only [evE] at e
  cases e1 : evE Φ a true env s with
  | none => rw [e1] at e; cases e
  | some p =>
    obtain ⟨tx, s1⟩ := p
    rw [e1] at e
    cases tx with
    | bl b =>
      cases b with
      | true =>
        cases e
        exact ⟨H0, g, own, env, s, true, _, r, e1, fun g1 H1 l1 r1 => q g1 H1 l1 r1⟩
      | false =>
        exact ⟨H0, g, own, env, s, false, s1, r, e1, fun g1 H1 l1 r1 => by
          simp only [Bool.false_eq_true, if_false]
          exact ⟨H0, g1, own, env, s1, t, s', r1, hm _ _ _ e, fun g' H' l r' => q g' H' (l1.trans l) r'⟩⟩
    | _ => cases e
theorem s_ite (hc : PT X z (tB X.K Φ c)) (ha : PE X x (tE X.K Φ a false)) (hb : PE X y (tE X.K Φ b false)) : PE X (.IfExp z x y pos) (tE X.K Φ (.ite c a b) false) := (pe_ifExp hc ha hb).imp fun σ H Q ⟨H0, g, own, env, s, t, s', r, e, q⟩ => by
  simp only [evE] at e
  cases e1 : evE Φ c true env s with
  | none => rw [e1] at e; cases e
  | some p =>
    obtain ⟨tx, s1⟩ := p
    rw [e1] at e
    cases tx with
    | bl b =>
      cases b with
      | true =>
        refine ⟨H0, g, own, env, s, true, s1, r, e1, fun g1 H1 l1 r1 => ?_⟩
        simp only [if_true]
        exact ⟨H0, g1, own, env, s1, t, s', r1, e, fun g' v H' l r' p => q g' v H' (l1.trans l) r' p⟩
      | false =>
        refine ⟨H0, g, own, env, s, false, s1, r, e1, fun g1 H1 l1 r1 => ?_⟩
        simp only [Bool.false_eq_true, if_false]
        exact ⟨H0, g1, own, env, s1, t, s', r1, e, fun g' v H' l r' p => q g' v H' (l1.trans l) r' p⟩
    | _ => cases e
end
end Gh
set_option linter.all false
set_option maxRecDepth 100000
set_option maxHeartbeats 1000000
namespace Gh
open PySem PySem.Spec PyProof.Rows L2

/-! ### the text's small conditions -/
def isStar : Expr → Bool
  | .Starred _ _ => true
  | _ => false
def isSlice : Expr → Bool
  | .Slice _ _ _ _ => true
  | _ => false
theorem starEach_cons {x : Expr} {xs : List Expr} {env : Env} (h : isStar x = false) : starEach (x :: xs) env = (false, eval x env) :: starEach xs env := by
  cases x <;> first | rfl | cases h
theorem any_star {env : Env} : ∀ {xs : List Expr}, (xs.all fun x => !isStar x) = true → (starEach xs env).any (·.1) = false
  | [], _ => rfl
  | x :: xs, h => by
    rw [List.all_cons, Bool.and_eq_true] at h
    have h1 : isStar x = false := by simpa using h.1
    rw [starEach_cons h1, List.any_cons, any_star h.2]; rfl
theorem any_back {env : Env} {pos : Pos} {xs : List Expr} (h : (xs.all fun x => !isStar x) = true) : (backTo pos (starEach xs env)).any (·.1) = false := by
  rw [← any_star (env := env) h]
  unfold backTo
  rw [List.any_map]; rfl
theorem plainIx {x : Expr} (h : isSlice x = false) : PlainIx x := by
  intro o i
  cases x <;> first | rfl | cases h

section
variable {X : Cx} {Φ : String → List T → Src → Option (T × Src)} {x y z : Expr} {a b c : E} {pos : Pos}
/-! ### displays -/
theorem s_nil : PA X [] (tEs X.K Φ []) := (pa_nil (X := X)).imp fun σ H Q ⟨H0, g, own, env, s, ts, s', r, e, q⟩ => by
  simp only [evEs] at e
  cases e
  exact q g [] H (Le.refl g) r .nil
def isStarE : E → Bool
  | .star _ => true
  | _ => false
theorem evEs_cons {es : List E} {env : List Slot} {s : Src} (h : isStarE a = false) : evEs Φ (a :: es) env s = match evE Φ a false env s with
    | none => none
    | some (x, s1) => (match evEs Φ es env s1 with
      | none => none
      | some (ys, s2) => some (x :: ys, s2)) := by
  cases a <;> first | rfl | cases h
theorem s_cons {xs : List Expr} {es : List E} (ha : PE X x (tE X.K Φ a false)) (hr : PA X xs (tEs X.K Φ es)) (h1 : isStar x = false) (h2 : isStarE a = false) : PA X (x :: xs) (tEs X.K Φ (a :: es)) := (pa_cons ha hr (starEach_cons h1)).imp fun σ H Q ⟨H0, g, own, env, s, ts, s', r, e, q⟩ => by
  rw [evEs_cons h2] at e
  split at e
  · cases e
  · rename_i t1 s1 e1
    split at e
    · cases e
    · rename_i t2 s2 e2
      cases e
      refine ⟨H0, g, own, env, s, t1, s1, r, e1, fun g1 v H1 l1 r1 p1 => ?_⟩
      refine ⟨H0, g1, own, env, s1, t2, _, r1, e2, fun g2 vs H2 l2 r2 p2 => ?_⟩
      exact q g2 (v :: vs) H2 (l1.trans l2) r2 (.cons (Rep.mono l2 (show Rep _ _ _ _ from p1)) p2)
theorem seq_of {K : PySem.W.Frag} {H0 : Fm} {g : Gs} {own : Own} {env : List Slot} {s : Src} {σ : L2.St} {H : Hp} {v : V} {t : T} {ts : List T} (r : R K H0 g own env s σ H) (h : RepT K g H v t) (e : seqN t = some ts) :
    ∃ a xs, v = .ref a ∧ (SqT K H a xs ∨ SqL K H a xs) ∧ Reps K g xs ts := by
  cases h with
  | tup h1 h2 => cases e; exact ⟨_, _, rfl, .inl (r.st h1), h2⟩
  | ptup h1 hd h2 => cases e; exact ⟨_, _, rfl, .inl (.inl (.inr ⟨_, r.sub _ _ h1⟩)), h2⟩
  | lst h1 h2 => cases e; exact ⟨_, _, rfl, .inr (SqL.of h1), h2⟩
  | _ => cases e
theorem s_star {xs : List Expr} {es : List E} {p : Pos} (ha : PE X x (tE X.K Φ a true)) (hr : PA X xs (tEs X.K Φ es)) : PA X (.Starred x p :: xs) (tEs X.K Φ (.star a :: es)) := (StX.pa_star ha hr rfl).imp fun σ H Q ⟨H0, g, own, env, s, ts, s', r, e, q⟩ => by
  simp only [evEs] at e
  split at e
  · cases e
  · rename_i t1 s1 e1
    split at e
    · cases e
    · rename_i us e0
      split at e
      · cases e
      · rename_i t2 s2 e2
        cases e
        refine ⟨H0, g, own, env, s, t1, s1, r, e1, fun g1 v H1 l1 r1 p1 => ?_⟩
        have hz := r1.val (show ValP _ _ _ _ _ _ _ from p1)
        obtain ⟨p, ys, rfl, hs, hr⟩ := seq_of r1 hz e0
        refine ⟨p, ys, rfl, hs, H0, g1, own, env, s1, t2, _, r1, e2, fun g2 vs H2 l2 r2 p2 => ?_⟩
        exact q g2 (ys ++ vs) H2 (l1.trans l2) r2 ((hr.mono l2).append p2)
theorem s_tup {xs : List Expr} {es : List E} {k : Nat} (h : PA X xs (tEs X.K Φ es)) : PE X (.Tuple xs k pos) (tF X.K Φ (.tup es)) := (pe_tup h).imp fun σ H Q ⟨H0, g, own, env, s, t, s', r, e, q⟩ => by
  simp only [evE] at e
  split at e
  · rename_i ts s1 e1
    split at e
    · rename_i hl
      cases e
      refine ⟨H0, g, own, env, s, ts, _, r, e1, fun g1 vs H1 l1 r1 p1 => ⟨by rw [p1.length, line_eq]; exact hl, fun p hp => ?_⟩⟩
      have q' : PostF X.K H0 own env s' σ (.tup ts) Q g1 := fun g2 v H2 l2 r2 f2 => q g2 v H2 (l1.trans l2) r2 f2
      exact q'.tup r1 hp p1
    · cases e
  · cases e
theorem s_lst {xs : List Expr} {es : List E} (h : PA X xs (tEs X.K Φ es)) : PE X (.List xs pos) (tF X.K Φ (.lst es)) := (pe_lst h).imp fun σ H Q ⟨H0, g, own, env, s, t, s', r, e, q⟩ => by
  simp only [evE, fits] at e
  split at e
  · rename_i ts s1 e1
    split at e
    · rename_i hl
      cases e
      refine ⟨H0, g, own, env, s, ts, _, r, e1, fun g1 vs H1 l1 r1 p1 => ⟨by rw [p1.length, line_eq]; exact hl, fun p hp => ?_⟩⟩
      have q' : PostF X.K H0 own env s' σ (.lst ts) Q g1 := fun g2 v H2 l2 r2 f2 => q g2 v H2 (l1.trans l2) r2 f2
      exact q'.made r1 hp (.lst p1)
    · cases e
  · cases e
/-! ### a[i], a[i:j] -/
theorem s_idx (hu : X.A.units + 1 < cLine) (ha : PE X x (tE X.K Φ a true)) (hb : PE X y (tE X.K Φ b false)) (hs : isSlice y = false) : PE X (.Subscript x y pos) (tE X.K Φ (.idx a b) false) :=
  (pe_ix (ix_any hu) ha hb (plainIx hs)).imp fun σ H Q ⟨H0, g, own, env, s, t, s', r, e, q⟩ => by
    simp only [evE] at e
    split at e
    · cases e
    · rename_i tx s1 e1
      split at e
      · cases e
      · rename_i ty s2 e2
        simp only [Option.map_eq_some_iff] at e
        obtain ⟨t', e3, e4⟩ := e
        cases e4
        refine ⟨H0, g, own, env, s, tx, s1, r, e1, fun g1 v H1 l1 r1 p1 => ?_⟩
        refine ⟨H0, g1, own, env, s1, ty, _, r1, e2, fun g2 u H2 l2 r2 p2 => ?_⟩
        exact f_ix r2 (r2.val (ValP.mono l2 (show ValP _ _ _ _ _ _ _ from p1))) ((show Rep _ _ _ _ from p2).top r2.sub) e3 fun g3 w H3 l3 r3 f3 => q g3 w H3 (l1.trans (l2.trans l3)) r3 f3
def isNoneE : E → Bool
  | .cN => true
  | _ => false
/-- a slice's end: as told, or left out -/
inductive SlEnd (X : Cx) (Φ : String → List T → Src → Option (T × Src)) : Option Expr → E → Prop
  | none : SlEnd X Φ none .cN
  | some {x : Expr} {a : E} : PE X x (tE X.K Φ a false) → isCN a = false → SlEnd X Φ (some x) a
theorem s_sl {lo hi : Option Expr} {l h : E} {p2 : Pos} (ha : PE X x (tE X.K Φ a true)) (hl : SlEnd X Φ lo l) (hh : SlEnd X Φ hi h) : PE X (.Subscript x (.Slice lo hi none p2) pos) (tF X.K Φ (.sl a l h)) := by
  -- the readings of the ends
  have po : ∀ {o : Option Expr} {e : E}, SlEnd X Φ o e → ∃ t : TO, PO X o t ∧ ∀ (H0 : Fm) (g : Gs) (own : Own) (env : List Slot) (s : Src) (tt : T) (s' : Src) (σ : L2.St) (H : Hp) (bd : Option Int) (Q : Option Int → Hp → Prop),
      R X.K H0 g own env s σ H → evE Φ e false env s = some (tt, s') → bnd (isCN e) tt = true → bound tt = some bd → (∀ g' H', Le g g' → R X.K H0 g' own env s' σ H' → Q bd H') → t σ H Q := by
    intro o e hse
    cases hse with
    | none => exact ⟨_, po_none, fun H0 g own env s tt s' σ H bd Q r e1 e0 e2 q => by
        simp only [evE] at e1
        cases e1
        cases e2
        exact q g H (Le.refl g) r⟩
    | some hp hne => exact ⟨_, po_some hp, fun H0 g own env s tt s' σ H bd Q r e1 e0 e2 q => ⟨H0, g, own, env, s, tt, s', r, e1, fun g1 v H1 l1 r1 p1 => by
        have p1' : Rep _ _ _ _ := p1
        cases tt with
        | int i =>
          cases p1'
          cases e2
          exact ⟨i, rfl, q g1 H1 l1 r1⟩
        | non => rw [hne] at e0; cases e0
        | _ => cases e2⟩⟩
  obtain ⟨tl, pl, ql⟩ := po hl
  obtain ⟨th, ph, qh⟩ := po hh
  refine (pe_slice sl_any ha pl ph).imp fun σ H Q ⟨H0, g, own, env, s, t, s', r, e, q⟩ => ?_
  simp only [evE] at e
  split at e
  · cases e
  · rename_i tx s1 e1
    split at e
    · cases e
    · rename_i ty s2 e2
      split at e
      · cases e
      · rename_i tz s3 e3
        split at e
        rotate_left
        · cases e
        rename_i hbb
        rw [Bool.and_eq_true] at hbb
        simp only [Option.map_eq_some_iff] at e
        obtain ⟨t', e4, e5⟩ := e
        cases e5
        have eb : ∃ b1 b2, bound ty = some b1 ∧ bound tz = some b2 := by
          unfold slT at e4
          split at e4
          · exact ⟨_, _, by assumption, by assumption⟩
          · cases e4
        obtain ⟨b1, b2, eb1, eb2⟩ := eb
        refine ⟨H0, g, own, env, s, tx, s1, r, e1, fun g1 v H1 l1 r1 p1 => ?_⟩
        refine ql H0 g1 own env s1 ty s2 σ H1 b1 _ r1 e2 hbb.1 eb1 fun g2 H2 l2 r2 => ?_
        refine qh H0 g2 own env s2 tz _ σ H2 b2 _ r2 e3 hbb.2 eb2 fun g3 H3 l3 r3 => ?_
        exact f_sl r3 (r3.val (ValP.mono (l2.trans l3) (show ValP _ _ _ _ _ _ _ from p1))) eb1 eb2 e4 fun g4 w H4 l4 r4 f4 => q g4 w H4 (l1.trans (l2.trans (l3.trans l4))) r4 f4
end
end Gh
set_option linter.all false
set_option maxRecDepth 100000
set_option maxHeartbeats 1000000
namespace Gh
open PySem PySem.Spec PyProof.Rows L2

/-! ### a def's promise -/
def Spec (K : PySem.W.Frag) (F : List T → Src → Option (T × Src)) (np : Nat) : Sp := fun vs H Q _ =>
  vs.length = np ∧ ∃ (g : Gs) (P : Addr → Prop) (s : Src) (ts : List T) (t : T) (s' : Src), R K ⟨H, P, fun _ => none⟩ g (fun _ => none) (ts.map Slot.sh) s (vs.map some) H ∧ F ts s = some (t, s') ∧
    ∀ g' v H', Le g g' → R K ⟨H, P, fun _ => none⟩ g' (fun _ => none) [] s' [] H' → Rep K g' v t → Q v H'
theorem Reps.slot {K : PySem.W.Frag} {g : Gs} {own : Own} {H : Hp} : ∀ {vs : List V} {ts : List T}, Reps K g vs ts → ∀ (i : Nat) (v : Option V) (x : Slot), (vs.map some)[i]? = some v → (ts.map Slot.sh)[i]? = some x → SlotR K g own H i v x
  | _, _, .nil, i, v, x, e, _ => by simp at e
  | _, _, .cons r b, 0, v, x, e, f => by
    simp at e f
    subst e f
    exact .sh r
  | _, _, .cons r b, i + 1, v, x, e, f => by
    have z := Reps.slot (own := own) (H := H) b i v x (by simpa using e) (by simpa using f)
    cases z with
    | un => exact .un
    | sh q => exact .sh q
    | ow a b c => exact absurd f (by simp)
    | lk => exact absurd f (by simp)
    | ow2 a b c d => exact absurd f (by simp)
section
variable {K : PySem.W.Frag} {H0 : Fm} {g : Gs} {own : Own} {env : List Slot} {s : Src} {σ : L2.St} {H : Hp}
/-- what the callee may not touch -/
def ownP (H0 : Fm) (own : Own) : Addr → Prop := fun a => H0.P a ∨ ∃ i, own a = some i
theorem R.callee (r : R K H0 g own env s σ H) {vs : List V} {ts : List T} (h : Reps K g vs ts) : R K ⟨H, ownP H0 own, fun _ => none⟩ g (fun _ => none) (ts.map Slot.sh) s (vs.map some) H := by
  refine ⟨by simp [h.length], r.sub, fun a o e _ => e, fun a ha => ?_, fun a ha => ?_, r.src, fun a ha => ⟨(r.locS a ha).1, rfl⟩, fun a i e => (by cases e), h.slot, fun i t e => (by simp at e)⟩
  · rcases ha with ha | ⟨i, ha⟩
    · obtain ⟨h1, o, h2, h3⟩ := r.prot a ha
      exact ⟨h1, o, r.keep a o h2 (r.prL a ha), h3⟩
    · obtain ⟨h1, h2, o, h3, h4⟩ := r.own_ a i ha
      exact ⟨h1, o, h3, h4⟩
  · rcases ha with ha | ⟨i, ha⟩
    · exact r.prL a ha
    · intro hl
      have := (r.locS a hl).2
      rw [ha] at this; cases this
theorem SlotR.keeps {g' : Gs} {H' : Hp} (l : Le g g') (k : ∀ a i o, own a = some i → H a = some o → H' a = some o) {i : Nat} {v : Option V} {x : Slot} (h : SlotR K g own H i v x) : SlotR K g' own H' i v x := by
  cases h with
  | un => exact .un
  | sh z => exact .sh (z.mono l)
  | ow f1 f2 f3 => exact .ow f1 (k _ _ _ f1 f2) (f3.mono l)
  | lk => exact .lk
  | ow2 f1 f2 f3 f4 =>
    refine .ow2 f1 (k _ _ _ f1 f2) f3 ?_
    clear f2 f3
    induction f4 with
    | nil => exact .nil
    | cons a b c _ ih => exact .cons a (k _ _ _ a b) (c.mono l) ih
theorem R.behind (r : R K H0 g own env s σ H) {g' : Gs} {own' : Own} {env' : List Slot} {s' : Src} {σ' : L2.St} {H' : Hp} (l : Le g g') (r' : R K ⟨H, ownP H0 own, fun _ => none⟩ g' own' env' s' σ' H') : R K H0 g' own env s' σ H' := by
  have kp : ∀ a i o, own a = some i → H a = some o → H' a = some o := fun a i o e h => r'.keep a o h (r'.prL a (.inr ⟨i, e⟩))
  have nl : ∀ a, ¬ g'.isL a → ¬ g.isL a := fun a h ⟨b, c, e, z⟩ => h ⟨b, c, l.loc _ e, z⟩
  refine ⟨r.len, r'.sub, fun a o e h => r'.keep a o (r.keep a o e (nl a h)) h, fun a ha => ⟨(r'.prot a (.inl ha)).1, (r.prot a ha).2⟩, fun a ha => r'.prL a (.inl ha), r'.src, fun a ha => ⟨(r'.locS a ha).1, ?_⟩, fun a i e => ?_, fun i v x e1 e2 => (r.slot i v x e1 e2).keeps l kp, fun i t e => (by
      obtain ⟨a, u, kvs, ts, h1, h2, h3, h4, h5, h6⟩ := r.lkd i t e
      exact ⟨a, u, kvs, ts, h1, h2, h3, h4, h5, h6.mono l⟩)⟩
  · cases q : own a with
    | none => rfl
    | some i => exact absurd ha (r'.prL a (.inr ⟨i, q⟩))
  · obtain ⟨h1, h2, o, h3, h4⟩ := r.own_ a i e
    exact ⟨(r'.prot a (.inr ⟨i, e⟩)).1, h2, o, kp a i o e h3, h4⟩
end

section
variable {X : Cx} {Φ : String → List T → Src → Option (T × Src)} {x y z : Expr} {a b c : E} {pos p : Pos} {m : Bool}
/-! ### f(..), f a def of the module -/
structure User (X : Cx) (k : Nat) (F : List T → Src → Option (T × Src)) (n : Str) (np : Nat) : Prop where
  ex : ∃ (f : Addr) (fd : FuncData) (ps : List Str), FnOk X.prog X.w X.K X.mg X.base L2.CX0 k f fd ps (Spec X.K F np) ∧ X.mg n = some (.ref f) ∧ PySem.W.keepIn X.K (.ref f) = true ∧ Binds X.K fd ps []
theorem noStar {xs : List Expr} (h : (xs.all fun x => !isStar x) = true) {pos : Pos} {env : Env} : (backTo pos (starEach xs env)).any (·.1) = false := any_back h
theorem s_call {k : Nat} {f : String} {es : List E} {xs : List Expr} {n : Str} {np : Nat} (hu : User X k (Φ f) n np) (hr : Room k X.A) (hg : Gl X n) (ha : PA X (x :: xs) (tEs X.K Φ es)) (hn : es.length = np) (hns : (es.all fun e => !isStarE e) = true) (hs : ((x :: xs).all fun x => !isStar x) = true) (hd : (n == ("__debug__" : Str)) = false) :
    PE X (.Call (.Name n p) (x :: xs) [] pos) (tE X.K Φ (.call f es) m) := by
  obtain ⟨fa, fd, ps, F, h1, h2, h3⟩ := hu.ex
  rw [List.all_cons, Bool.and_eq_true] at hs
  have h4 : isStar x = false := by simpa using hs.1
  refine (pe_call (E := L2.E0) F hr hg h1 h2 h3 .nil pass0 ha hd (starEach_cons h4) (any_back hs.2)).imp fun σ H Q ⟨H0, g, own, env, s, t, s', r, e, q⟩ => ?_
  simp only [evE] at e
  split at e
  · cases e
  · rename_i ts s1 e1
    refine ⟨H0, g, own, env, s, ts, s1, r, e1, fun g1 vs H1 l1 r1 p1 => ?_⟩
    have hl : ∀ (es : List E), (es.all fun e => !isStarE e) = true → ∀ (ts : List T) (s s1 : Src), evEs Φ es env s = some (ts, s1) → ts.length = es.length := by
      intro es
      induction es with
      | nil => intro _ ts s s1 e; simp only [evEs] at e; cases e; rfl
      | cons a as ih =>
        intro hq ts s s1 e
        rw [List.all_cons, Bool.and_eq_true] at hq
        rw [evEs_cons (by simpa using hq.1)] at e
        split at e
        · cases e
        · split at e
          · cases e
          · rename_i w1 w2 w3 w4 w5 w6
            cases e
            simp [ih hq.2 _ _ _ w6]
    refine ⟨by rw [List.append_nil, p1.length, hl es hns ts s s1 e1, hn], g1, _, s1, ts, t, s', (by rw [List.append_nil]; exact r1.callee p1), e, fun g2 v H2 l2 r2 p2 => ?_⟩
    exact q g2 v H2 (l1.trans l2) (r1.behind l2 r2) (Val.ofRep p2)
theorem s_call0 {k : Nat} {f : String} {n : Str} (hu : User X k (Φ f) n 0) (hr : Room k X.A) (hg : Gl X n) (hd : (n == ("__debug__" : Str)) = false) : PE X (.Call (.Name n p) [] [] pos) (tE X.K Φ (.call f []) m) := by
  obtain ⟨fa, fd, ps, F, h1, h2, h3⟩ := hu.ex
  refine (pe_call0 (E := L2.E0) F hr hg h1 h2 h3 .nil pass0 hd).imp fun σ H Q ⟨H0, g, own, env, s, t, s', r, e, q⟩ => ?_
  simp only [evE, evEs] at e
  refine ⟨rfl, g, _, s, [], t, s', r.callee .nil, e, fun g2 v H2 l2 r2 p2 => ?_⟩
  exact q g2 v H2 l2 (r.behind l2 r2) (Val.ofRep p2)

/-! ### built-in functions -/
/-- f(x): hb the layer's rule for the call -/
theorem s_bi {r : List V → Hp → VK → Prop} {f : B} {n : Str} (hb : ∀ t, PA X [x] t → PE X (.Call (.Name n p) [x] [] pos) (tCB r t)) (hf : CallF X.K r (biT f)) (ha : PE X x (tE X.K Φ a true)) (hs : isStar x = false) : PE X (.Call (.Name n p) [x] [] pos) (tF X.K Φ (.bi f a)) :=
  (hb _ (pa_cons ha pa_nil (starEach_cons hs))).imp fun σ H Q ⟨H0, g, own, env, s, t, s', r, e, q⟩ => by
    simp only [evE] at e
    split at e
    · cases e
    · rename_i tx s1 e1
      simp only [Option.map_eq_some_iff] at e
      obtain ⟨t', e3, e4⟩ := e
      cases e4
      refine ⟨H0, g, own, env, s, tx, _, r, e1, fun g1 v H1 l1 r1 p1 => ?_⟩
      exact hf r1 (r1.val (show ValP _ _ _ _ _ _ _ from p1)) e3 fun g2 w H2 l2 r2 f2 => q g2 w H2 (l1.trans l2) r2 f2
theorem s_bi2 {f : B} {n : Str} {h : Int → Int → Int} (hb : ∀ t, PA X [x, y] t → PE X (.Call (.Name n p) [x, y] [] pos) (tCB (fun xs H Q => ∃ i j, xs = [.int i, .int j] ∧ Q (.int (h i j)) H) t)) (hf : ∀ tx ty t, biT2 f tx ty = some t → ∃ i j, tx = .int i ∧ ty = .int j ∧ t = .int (h i j))
    (ha : PE X x (tE X.K Φ a true)) (hb' : PE X y (tE X.K Φ b true)) (hs : isStar x = false) (hs2 : isStar y = false) : PE X (.Call (.Name n p) [x, y] [] pos) (tF X.K Φ (.bi2 f a b)) :=
  (hb _ (pa_cons ha (pa_cons hb' pa_nil (starEach_cons hs2)) (starEach_cons hs))).imp fun σ H Q ⟨H0, g, own, env, s, t, s', r, e, q⟩ => by
    simp only [evE] at e
    split at e
    · cases e
    · rename_i tx s1 e1
      split at e
      · cases e
      · rename_i ty s2 e2
        simp only [Option.map_eq_some_iff] at e
        obtain ⟨t', e3, e4⟩ := e
        cases e4
        obtain ⟨i, j, rfl, rfl, rfl⟩ := hf _ _ _ e3
        refine ⟨H0, g, own, env, s, _, s1, r, e1, fun g1 v H1 l1 r1 p1 => ?_⟩
        refine ⟨H0, g1, own, env, s1, _, _, r1, e2, fun g2 u H2 l2 r2 p2 => ?_⟩
        have z1 := r2.val (ValP.mono l2 (show ValP _ _ _ _ _ _ _ from p1))
        have z2 := r2.val (show ValP _ _ _ _ _ _ _ from p2)
        cases z1
        cases z2
        exact ⟨_, _, rfl, q g2 _ H2 (l1.trans l2) r2 (.inl ⟨rfl, .int _⟩)⟩
def tyN : Ty → String
  | .int => "int"
  | .bool => "bool"
  | .str => "str"
  | .tuple => "tuple"
  | .list => "list"
  | .dict => "dict"
theorem isi_of {K : PySem.W.Frag} {g : Gs} {H : Hp} {v : V} {t : T} {ty : Ty} {k : Bool} (hv : RepT K g H v t) (sub : ∀ a o, g.S a = some o → H a = some o) (e : isiT t ty = some k) : ∃ u, TyX K H v u ∧ PySem.W.kitOne K u (.type (tyN ty)) = some k := by
  cases hv <;> simp only [isiT, Option.some.injEq, reduceCtorEq] at e <;> subst e
  · exact ⟨_, .base .non, by cases ty <;> exact kit_ty (by decide +kernel)⟩
  · exact ⟨_, .base (.bl _), by cases ty <;> exact kit_ty (by decide +kernel)⟩
  · exact ⟨_, .base (.int _), by cases ty <;> exact kit_ty (by decide +kernel)⟩
  · exact ⟨_, .base (.str _), by cases ty <;> exact kit_ty (by decide +kernel)⟩
  · rename_i h1 h2; exact ⟨_, .base (.tup (sub _ _ h1)), by cases ty <;> exact kit_ty (by decide +kernel)⟩
  · rename_i h1 hn h2; exact ⟨_, .fTuple (sub _ _ h1), by cases ty <;> exact kit_ty (by decide +kernel)⟩
  · rename_i h1 h2; exact ⟨_, .base (.lst h1), by cases ty <;> exact kit_ty (by decide +kernel)⟩
  · rename_i h1 h2
    rcases h1 with h1 | ⟨o, h1⟩
    · exact ⟨_, .base (.dK h1), by cases ty <;> exact kit_ty (by decide +kernel)⟩
    · exact ⟨_, .fDict h1, by cases ty <;> exact kit_ty (by decide +kernel)⟩
theorem s_isi {ty : Ty} {p2 : Pos} (hc : ∀ t, PA X [x, .Name (tyN ty) p2] t → PE X (.Call (.Name "isinstance" p) [x, .Name (tyN ty) p2] [] pos) (tCB (rIsi X.K) t)) (ht : PE X (.Name (tyN ty) p2) (tC (.ty (tyN ty)))) (ha : PE X x (tE X.K Φ a true)) (hs : isStar x = false) :
    PE X (.Call (.Name "isinstance" p) [x, .Name (tyN ty) p2] [] pos) (tF X.K Φ (.isi a ty)) :=
  (hc _ (pa_cons ha (pa_cons ht pa_nil rfl) (starEach_cons hs))).imp fun σ H Q ⟨H0, g, own, env, s, t, s', r, e, q⟩ => by
    simp only [evE] at e
    split at e
    · cases e
    · rename_i tx s1 e1
      simp only [Option.map_eq_some_iff] at e
      obtain ⟨k, e3, e4⟩ := e
      cases e4
      refine ⟨H0, g, own, env, s, tx, _, r, e1, fun g1 v H1 l1 r1 p1 => ?_⟩
      obtain ⟨u, h1, h2⟩ := isi_of (r1.val (show ValP _ _ _ _ _ _ _ from p1)) r1.sub e3
      exact ⟨v, _, u, _, k, rfl, .ty _, h1, h2, q g1 _ H1 l1 r1 (.inl ⟨rfl, .bl _⟩)⟩
theorem s_neg (ha : PE X x (tE X.K Φ a true)) : PE X (.UnaryOp .USub x pos) (tF X.K Φ (.neg a)) := (pe_un un_neg ha).imp fun σ H Q ⟨H0, g, own, env, s, t, s', r, e, q⟩ => by
  simp only [evE] at e
  split at e
  · rename_i i s1 e1
    cases e
    refine ⟨H0, g, own, env, s, _, _, r, e1, fun g1 v H1 l1 r1 p1 => ?_⟩
    have z := r1.val (show ValP _ _ _ _ _ _ _ from p1)
    cases z
    exact ⟨_, rfl, q g1 _ H1 l1 r1 (.inl ⟨rfl, .int _⟩)⟩
  · cases e
theorem s_isB {neg k : Bool} {op : CmpOp} {j : Nat} {p' : Pos} (hop : op = if neg then .IsNot else .Is) (ha : PE X x (tE X.K Φ a true)) : PE X (.Compare x [op] [.Constant (.bool k) j p'] pos) (tF X.K Φ (.isB neg k a)) ∧ PT X (.Compare x [op] [.Constant (.bool k) j p'] pos) (tB X.K Φ (.isB neg k a)) := by
  cases neg with
  | false =>
    subst hop
    refine ⟨(pe_cmpR op_isBl ha pe_bl (nobehind _ (by decide) (by decide))).imp ?_, (pt_cmpR op_isBl ha pe_bl (nobehind _ (by decide) (by decide))).imp ?_⟩
    all_goals
      rintro σ H Q ⟨H0, g, own, env, s, t, s', r, e, q⟩
      simp only [evE] at e
      split at e
      rotate_left
      · cases e
      rename_i c s1 e1
      cases e
      refine ⟨H0, g, own, env, s, _, _, r, e1, fun g1 v H1 l1 r1 p1 => ?_⟩
      have z := r1.val (show ValP _ _ _ _ _ _ _ from p1)
      cases z
      have ek : decide (c = k) = (c == k) := by cases c <;> cases k <;> rfl
    · refine ⟨_, _, rfl, rfl, ?_⟩
      rw [ek]
      exact q g1 _ H1 l1 r1 (.inl ⟨rfl, .bl _⟩)
    · refine ⟨_, _, rfl, rfl, ?_⟩
      rw [ek]
      exact ⟨_, rfl, q g1 H1 l1 r1⟩
  | true =>
    subst hop
    refine ⟨(pe_cmpR op_notBl ha pe_bl (nobehind _ (by decide) (by decide))).imp ?_, (pt_cmpR op_notBl ha pe_bl (nobehind _ (by decide) (by decide))).imp ?_⟩
    all_goals
      rintro σ H Q ⟨H0, g, own, env, s, t, s', r, e, q⟩
      simp only [evE] at e
      split at e
      rotate_left
      · cases e
      rename_i c s1 e1
      cases e
      refine ⟨H0, g, own, env, s, _, _, r, e1, fun g1 v H1 l1 r1 p1 => ?_⟩
      have z := r1.val (show ValP _ _ _ _ _ _ _ from p1)
      cases z
      have ek : (!decide (c = k)) = !(c == k) := by cases c <;> cases k <;> rfl
    · refine ⟨_, _, rfl, rfl, ?_⟩
      rw [ek]
      exact q g1 _ H1 l1 r1 (.inl ⟨rfl, .bl _⟩)
    · refine ⟨_, _, rfl, rfl, ?_⟩
      rw [ek]
      exact ⟨_, rfl, q g1 H1 l1 r1⟩
/-! ### a < b < c -/
theorem pe_post {t : TE} (h : PE X x t) : PE X x (fun σ H Q => ∃ Q0 : VK, t σ H Q0 ∧ ∀ v H1, Q0 v H1 → Q v H1) := ⟨fun pins s σ H Q I ⟨Q0, h1, h2⟩ => thn (h.run pins s σ H Q0 I h1) fun v s1 ⟨y, H1, I1, r1, q1⟩ => ⟨y, H1, I1, r1, h2 _ _ q1⟩⟩
theorem s_ch {op op' : CmpOp} {o o' : Cm} {rr rr' : R2} (ho : OpR X (compareOp op) rr) (ho' : OpR X (compareOp op') rr') (hf : CmF X.K rr (cmpT o)) (hf' : CmF X.K rr' (cmpT o')) (ha : PE X x (tE X.K Φ a true)) (hb : PE X y (tE X.K Φ b true)) (hc : PE X z (tE X.K Φ c true))
    (hm : lastMarks [op, op'] [y, z] = false) : PE X (.Compare x [op, op'] [y, z] pos) (tF X.K Φ (.ch o o' a b c)) ∧ PT X (.Compare x [op, op'] [y, z] pos) (tB X.K Φ (.ch o o' a b c)) := by
  have key : ∀ σ H (Q : Bool → Hp → Prop), tB X.K Φ (.ch o o' a b c) σ H Q → tChain rr rr' (tE X.K Φ a true) (tE X.K Φ b true) (tE X.K Φ c true) σ H (fun v H1 => ∃ k, v = .bl k ∧ Q k H1) := by
    rintro σ H Q ⟨H0, g, own, env, s, t, s', r, e, q⟩
    simp only [evE] at e
    split at e
    · cases e
    · rename_i tx s1 e1
      split at e
      · cases e
      · rename_i ty s2 e2
        refine ⟨H0, g, own, env, s, _, s1, r, e1, fun g1 v H1 l1 r1 p1 => ?_⟩
        refine ⟨H0, g1, own, env, s1, _, _, r1, e2, fun g2 u H2 l2 r2 p2 => ?_⟩
        have z1 := r2.val (ValP.mono l2 (show ValP _ _ _ _ _ _ _ from p1))
        have z2 := r2.val (show ValP _ _ _ _ _ _ _ from p2)
        split at e
        · cases e
        · rename_i e3
          cases e
          refine hf (t := .bl false) r2 z1 z2 (by simp only [e3]; rfl) fun g3 w H3 l3 r3 f3 => ?_
          rcases f3 with ⟨_, f3⟩ | ⟨pp, oo, _, _, f3, _⟩
          · cases f3
            refine ⟨false, rfl, ?_⟩
            exact ⟨false, rfl, q g3 H3 (l1.trans (l2.trans l3)) r3⟩
          · cases f3
        · rename_i e3
          refine hf (t := .bl true) r2 z1 z2 (by simp only [e3]; rfl) fun g3 w H3 l3 r3 f3 => ?_
          rcases f3 with ⟨_, f3⟩ | ⟨pp, oo, _, _, f3, _⟩
          · cases f3
            refine ⟨true, rfl, ?_⟩
            split at e
            · cases e
            · rename_i tz s3 e4
              simp only [Option.map_eq_some_iff] at e
              obtain ⟨k, e5, e6⟩ := e
              cases e6
              refine ⟨H0, g3, own, env, s2, _, _, r3, e4, fun g4 w H4 l4 r4 p4 => ?_⟩
              have z3 := r4.val (ValP.mono (l3.trans l4) (show ValP _ _ _ _ _ _ _ from p2))
              have z4 := r4.val (show ValP _ _ _ _ _ _ _ from p4)
              refine hf' (t := .bl _) r4 z3 z4 (by simp only [e5]; rfl) fun g5 w H5 l5 r5 f5 => ?_
              rcases f5 with ⟨_, f5⟩ | ⟨pp, oo, _, _, f5, _⟩
              · cases f5
                exact ⟨_, rfl, q g5 H5 (l1.trans (l2.trans (l3.trans (l4.trans l5)))) r5⟩
              · cases f5
          · cases f3
  refine ⟨(pe_post (pe_chain ho ho' ha hb hc hm)).imp fun σ H Q h => ?_, (pt_chain ho ho' ha hb hc hm).imp fun σ H Q h => key σ H Q h⟩
  obtain ⟨H0, g, own, env, s, t, s', r, e, q⟩ := h
  have et : ∃ k, t = .bl k := by
    simp only [evE] at e
    split at e
    · cases e
    · split at e
      · cases e
      · split at e
        · cases e
        · cases e; exact ⟨_, rfl⟩
        · split at e
          · cases e
          · simp only [Option.map_eq_some_iff] at e
            obtain ⟨k, e5, e6⟩ := e
            cases e6
            exact ⟨_, rfl⟩
  obtain ⟨k, rfl⟩ := et
  have z := key σ H (fun b H1 => Q (.bl b) H1) ⟨H0, g, own, env, s, k, s', r, e, fun g' H' l r' => q g' _ H' l r' (.inl ⟨rfl, .bl _⟩)⟩
  exact ⟨_, z, fun v H1 ⟨k, e1, e2⟩ => by rw [e1]; exact e2⟩
end
end Gh
set_option linter.all false
set_option maxRecDepth 100000
set_option maxHeartbeats 1000000
namespace Gh
open PySem PySem.Spec PyProof.Rows L2

section
variable {prog : Program} {w : World} {K : Type} [DecidableEq K] {knd : KeyKind prog w K} {A : Around} {E : Value → Shared → Prop} {s : Shared}
/-- as the store of an entry, without the rules' marks -/
theorem wpAny_dictPut_pairs {d : Addr} {kvs : List (K × Value)} {k : K} {key v : Value} {Q : Unit → Shared → Prop} (hkey : knd.is k key = true) (hm : s.heap.DictOf knd d kvs)
    (hQ : ∀ h', h'.DictOf knd d (stored kvs k v) → Heap.SameBut d s.heap h' → Q () { s with heap := h' }) (hsz : kvs.length ≤ sizeLine) :
    wpAny (model prog w) A (dictPut d (knd.hash k) key v) Q E s := by
  obtain ⟨o, es, ep, ho, hc, hd, hk, hp, hn⟩ := hm
  have hes : es.size ≤ sizeLine := by have e1 := hp.length; have e2 : es.toList.length = es.size := by simp
                                      omega
  unfold dictPut
  refine wpAny_bind (wpAny_dictFind_of hkey ho hd hk ?_)
  have hidx : (es.findIdx? fun e => knd.is k e.key) = kvs.findIdx? fun kv => decide (kv.1 = k) := by
    rw [← hp.findIdx k]; obtain ⟨l⟩ := es; simp
  cases hi : es.findIdx? fun e => knd.is k e.key with
  | some i =>
    refine wpAny_updateDict ho hd (hQ _ ⟨_, _, ep, Heap.get?_update_self _ ho (Obj.isFreed_of_dict (Obj.data_mapDict hd _)),
      hc.mapDict _, Obj.data_mapDict hd _, hk.modify _ _, ?_, ?_⟩ (Heap.SameBut.update ..))
    · rw [stored, if_pos (any_of_findIdx_some (hidx ▸ hi))]
      have hl : (es.toList.findIdx? fun e => knd.is k e.key) = some i := by rw [← hi]; obtain ⟨l⟩ := es; simp
      have := hp.modify hn hl v
      obtain ⟨l⟩ := es
      simpa using this
    · rw [stored, if_pos (any_of_findIdx_some (hidx ▸ hi)), keys_map_store]; exact hn
  | none =>
    have hnot : k ∉ kvs.map (·.1) := not_mem_of_findIdx_none (hidx ▸ hi)
    have hany : ¬ (kvs.any fun kv => decide (kv.1 = k)) = true := by
      rw [List.any_eq_true]; rintro ⟨kv, hkv, he⟩
      exact hnot (List.mem_map.mpr ⟨kv, hkv, of_decide_eq_true he⟩)
    refine wpAny_updateDictKeys (hz := hes) ho hd (hQ _ ⟨_, _, ep + 1, Heap.get?_update_self _ ho (Obj.isFreed_of_dict (Obj.data_mapDictKeys hd _)),
      hc.mapDictKeys _, Obj.data_mapDictKeys hd _, hk.push hkey _, ?_, ?_⟩ (Heap.SameBut.update ..))
    · rw [stored, if_neg hany]
      have := hp.append hkey (knd.hash k) v
      obtain ⟨l⟩ := es
      simpa using this
    · rw [stored, if_neg hany, List.map_append, List.nodup_append]
      refine ⟨hn, by simp, ?_⟩
      intro a ha b hb
      simp only [List.map_cons, List.map_nil, List.mem_singleton] at hb
      subst hb
      exact fun e => hnot (e ▸ ha)
theorem wpAny_mergeMapping_dict {d o : Addr} {kvs more : List (K × Value)} {Q : Unit → Shared → Prop} (hnr : ∀ k key, knd.is k key = true → ∀ a, key ≠ .ref a) (hdo : d ≠ o) (hoS : (o == sysModules) = false)
    (hd : s.heap.DictOf knd d kvs) (ho : s.heap.DictOf knd o more)
    (hQ : ∀ h', h'.DictOf knd d (merged kvs more) → h'.DictOf knd o more → Heap.SameBut d s.heap h' → Q () { s with heap := h' })
    (hsz : kvs.length + more.length ≤ sizeLine) :
    wpAny (model prog w) A (mergeMapping d (.ref o) false) Q E s := by
  obtain ⟨od, esd, epd, hod, hcd, hdd, hkd, hpd, hnd⟩ := id hd
  obtain ⟨oo, eso, epo, hoo, hco, hdo', hko, hpo, hno⟩ := id ho
  have hlen : more.length = eso.size := by rw [← hpo.length]; simp
  unfold mergeMapping
  refine wpAny_bind (wpAny_isInstance ho.typeIs isSubtype_dict_dict ?_)
  dsimp only
  rw [if_pos rfl]
  refine wpAny_bind (wpAny_specialOf ho.typeIs F.slot_dict_iter.lookup ?_)
  simp only [beq_self_eq_true]
  refine wpAny_bind (wpAny_pure ?_)
  dsimp only
  rw [if_neg (by rw [hoS]; exact Bool.false_ne_true)]
  have loop : wpAny (model prog w) A (do
      let l ← dictEntries o
      let epoch ← dictEpoch o
      forIn (List.range l.size) PUnit.unit fun i (_ : PUnit) => (do
          let l' ← dictEntries o
          match l'[i]? with
            | some e => do
              holding [e.key, e.val] (dictPut d e.hash e.key e.val)
              let ep' ← dictEpoch o
              if (ep' != epoch) = true then do
                  (unsupported "dict.changed-during-merge" : Sem PUnit)
                  pure (ForInStep.yield PUnit.unit)
                else pure (ForInStep.yield PUnit.unit)
            | _ => do
              (unsupported "dict.changed-during-merge" : Sem PUnit)
              pure (ForInStep.yield PUnit.unit) : Sem (ForInStep PUnit))
      pure ()) Q E s := by
    refine wpAny_bind (wpAny_dictEntries hoo hdo' ?_)
    refine wpAny_bind (wpAny_dictEpoch hoo hdo' ?_)
    refine wpAny_bind ?_
    rw [List.range_eq_range']
    refine wpAny_forIn_list _
      (fun rest _ s' => ∃ h' i, s' = { s with heap := h' } ∧ rest = List.range' i (eso.size - i) ∧ i ≤ eso.size ∧ h'.DictOf knd d (merged kvs (more.take i)) ∧ h'.get? o = some oo ∧ Heap.SameBut d s.heap h')
      _ ?_ ?_ _ _ ⟨s.heap, 0, rfl, by simp, Nat.zero_le _, by simpa [merged] using hd, hoo, Heap.SameBut.refl _ _⟩
    · rintro x rest b s' ⟨h', i, rfl, hr, hi, hd', hoo', hs'⟩
      have hlt : i < eso.size := by
        rcases Nat.lt_or_ge i eso.size with h | h
        · exact h
        · rw [Nat.sub_eq_zero_of_le h] at hr; simp at hr
      obtain ⟨rfl, hrest⟩ : x = i ∧ rest = List.range' (i + 1) (eso.size - (i + 1)) := by
        have e : eso.size - i = (eso.size - (i + 1)) + 1 := by omega
        rw [e, List.range'_succ] at hr
        injection hr with h1 h2
        exact ⟨h1, h2⟩
      refine wpAny_bind (wpAny_dictEntries hoo' hdo' ?_)
      rw [Array.getElem?_eq_getElem hlt]
      obtain ⟨kv, hkv⟩ : ∃ kv, more[x]? = some kv := ⟨more[x]'(by rw [hlen]; exact hlt), List.getElem?_eq_getElem _⟩
      obtain ⟨k, v⟩ := kv
      obtain ⟨hkey, hval⟩ := hpo.get? (e := eso[x]) (by simp [hlt]) hkv
      obtain ⟨k', hkey', hhash⟩ := hko eso[x] (Array.getElem_mem hlt)
      obtain rfl : k' = k := knd.inj _ _ _ hkey' hkey
      show wpAny _ _ (holding [eso[x].key, eso[x].val] (dictPut d eso[x].hash eso[x].key eso[x].val) >>= _) _ _ _
      rw [hhash, hval]
      have hmx : (merged kvs (more.take x)).length ≤ sizeLine := by
        have e1 := merged_length_le kvs (more.take x)
        have e2 : (more.take x).length ≤ more.length := by rw [List.length_take]; omega
        omega
      refine wpAny_bind (wpAny_holding (wpAny_dictPut_pairs (hsz := hmx) hkey hd' fun h'' hd'' hs'' => ?_))
      have hoo'' : h''.get? o = some oo := (hs''.2 o (Ne.symm hdo)).trans hoo'
      refine wpAny_bind (wpAny_dictEpoch hoo'' hdo' ?_)
      rw [if_neg (by simp)]
      exact wpAny_pure ⟨h'', x + 1, rfl, hrest, hlt, by rw [merged_take_succ kvs more x (k', v) hkv]; exact hd'', hoo'', hs'.trans hs''⟩
    · rintro b s' ⟨h', i, rfl, hr, hi, hd', hoo', hs'⟩
      have hin : i = eso.size := by
        rcases Nat.lt_or_ge i eso.size with h | h
        · have e : eso.size - i = (eso.size - (i + 1)) + 1 := by omega
          rw [e, List.range'_succ] at hr; exact nomatch hr
        · exact Nat.le_antisymm hi h
      refine wpAny_pure (hQ h' ?_ ⟨oo, eso, epo, hoo', hco, hdo', hko, hpo, hno⟩ hs')
      rw [hin, ← hlen, List.take_length] at hd'; exact hd'
  refine wpAny_bind (wpAny_dictEntries hod hdd ?_)
  split
  · refine wpAny_bind (wpAny_dictEntries hoo hdo' ?_)
    refine wpAny_bind (wpAny_of_eq (a := PUnit.unit) ?_ loop)
    rw [← Array.forIn_toList]
    refine forIn_yield_id _ fun e he c => ?_
    obtain ⟨k, hkey, _⟩ := hko e (Array.mem_toList_iff.mp he)
    have hn := hnr k _ hkey
    split
    · rename_i a ha
      exact absurd ha (hn a)
    · rfl
  · exact loop
theorem gather_main (f : (Option (Sem Value) × Sem Value) → (Option Addr × List (Sem Value × Sem Value)) → Sem (ForInStep (Option Addr × List (Sem Value × Sem Value)))) (d : Option Addr)
    (hf : ∀ (p : Sem Value × Sem Value) (run : List (Sem Value × Sem Value)), run.length + 1 < 17 → f (some p.1, p.2) (d, run) = pure (.yield (d, run ++ [p]))) :
    ∀ (items run : List (Sem Value × Sem Value)), run.length + items.length < 17 → forIn (items.map fun p => (some p.1, p.2)) (d, run) f = pure (d, run ++ items)
  | [], run, _ => by simp
  | p :: rest, run, h => by
    rw [List.map_cons, List.forIn_cons, hf p run (by simp at h; omega), pure_bind]
    have := gather_main f d hf rest (run ++ [p]) (by simp at h ⊢; omega)
    simpa using this
theorem wpAny_dictDisplay_star {v0 : Sem Value} {pairs : List (Sem Value × Sem Value)} {Q : Value → Shared → Prop} (h0 : pairs ≠ []) (hlen : pairs.length < 17)
    (h : wpAny (model prog w) A v0 (fun m s1 => wpAny (model prog w) A (mergeMapping s.heap.objs.size m false) (fun _ s2 => wpAny (model prog w) A (subDict pairs) (fun sub s3 => wpAny (model prog w) A (mergeMapping s.heap.objs.size (.ref sub) false) (fun _ s4 => Q (.ref s.heap.objs.size) s4) (fun _ _ => False) s3) E s2) (fun _ _ => False) s1) E
      { s with heap := s.heap.push { cls := .type "dict", data := .dict #[] } }) :
    wpAny (model prog w) A (dictDisplay ((none, v0) :: pairs.map fun p => (some p.1, p.2))) Q E s := by
  unfold dictDisplay
  dsimp only
  rw [List.forIn_cons]
  simp only [List.isEmpty_nil, if_true, pure_bind, bind_assoc]
  refine wpAny_bind (wpAny_alloc ?_)
  refine wpAny_bind (wpAny_holding (wpAny_mono h (fun m s1 h1 => ?_) fun _ _ e => e))
  refine wpAny_bind (wpAny_onRaise (wpAny_tryCatch (wpAny_onRaise (wpAny_holding (wpAny_mono h1 (fun _ s2 h2 => ?_) fun _ _ e => e.elim)))))
  rw [gather_main _ (some s.heap.objs.size) (fun p run h => by
    have hne : ((run ++ [(p.1, p.2)]).length == 17) = false := by simp; omega
    simp only [hne, Bool.false_eq_true, if_false]) pairs [] (by simpa using hlen)]
  simp only [pure_bind, List.nil_append]
  have he : pairs.isEmpty = false := by cases pairs with
    | nil => exact absurd rfl h0
    | cons a b => rfl
  rw [he]
  simp only [Bool.false_eq_true, if_false, bind_assoc]
  refine wpAny_bind (wpAny_holding (wpAny_mono h2 (fun sub s3 h3 => ?_) fun _ _ e => e))
  refine wpAny_bind (wpAny_onRaise (wpAny_holding (wpAny_mono h3 (fun _ s4 h4 => ?_) fun _ _ e => e.elim)))
  simp only [pure_bind]
  exact wpAny_pure h4
end

section
variable {X : Cx} {pos : Pos}
theorem not_refK {P : Program} {w : World} (k : Key) (key : Value) (h : (mixKind P w).is k key = true) (a : Addr) : key ≠ .ref a := by
  rcases keyIs_shape h with ⟨i, t, _, rfl⟩ | ⟨x, t, _, rfl⟩ <;> intro z <;> cases z
/-- {**o, k: v, ..}: the new dict stands empty while o is made; then o's entries, while a second dict is made of the pairs -/
def tDispS (to : TE) (trs : List (TE × TE)) : TE := fun σ H Q => ∀ p, H p = none → to σ (upd H p (.dK [])) fun x H1 => H1 p = some (.dK []) ∧ ∃ (a : Addr) (kvs : List (Key × V)), x = .ref a ∧ a ≠ p ∧ Rd H1 a (.dK kvs) ∧ kvs.length ≤ 1000 ∧
  ∀ q, (upd H1 p (.dK (mergeK [] kvs))) q = none → tPairs trs σ (upd (upd H1 p (.dK (mergeK [] kvs))) q (.dK [])) fun ps H2 => H2 q = some (.dK []) ∧ H2 p = some (.dK (mergeK [] kvs)) ∧
    ∃ kvs2 : List (Key × V), ps = kvs2.map (fun kv => (kV kv.1, kv.2)) ∧ kvs2.length ≤ 15 ∧ Q (.ref p) (upd (upd H2 q (.dK (mergeK [] kvs2))) p (.dK (mergeK (mergeK [] kvs) (mergeK [] kvs2))))
theorem pe_dispS {o : Expr} {to : TE} {keys : List (Option Expr)} {values : List Expr} {trs : List (TE × TE)} (ho : PE X o to) (h : PPs X pos keys values trs) (hall : keys.all (·.isSome) = true) (hl : keys.length = values.length) (h0 : keys ≠ [])
    (h15 : keys.length ≤ 15) : PE X (.Dict (none :: keys) (o :: values) pos) (tDispS to trs) := by
  refine ⟨fun pins s σ H Q I q => ?_⟩
  have hz : (evalEachOpt (none :: keys) X.env).zip ((evalEach (o :: values) X.env).map fun v => do let x ← v; standAt pos; pure x) = (none, do let x ← eval o X.env; standAt pos; pure x) :: (pairTrees keys values X.env pos).map fun p => (some p.1, p.2) := by
    rw [← zip_pairTrees keys values X.env pos hall hl]; rfl
  rw [arm_eval_Dict, hz]
  refine wpAny_bind (wpAny_standAt ?_)
  have hn := pairTrees_length keys values X.env pos hall hl
  have hp0 : pairTrees keys values X.env pos ≠ [] := by
    intro he
    rw [he] at hn
    exact h0 (List.length_eq_zero_iff.mp hn.symm)
  have hnp := I.hok.fresh (Nat.le_refl s.heap.objs.size)
  have I1 := I.laid (a := s.heap.objs.size) (o := .dK []) (h' := s.heap.push { cls := .type "dict", data := .dict #[] }) (t' := s.toks) (fun _ _ q => Heap.get?_push_of_some _ q) (Nat.le_refl _) (dk_empty s.heap I.big)
  refine wpAny_dictDisplay_star hp0 (by rw [hn]; omega) (wpAny_bind (thn (ho.run pins _ σ _ _ I1 (q _ hnp)) fun v s1 ⟨x, H1, I2, rx, e1, a, kvs, ex, hap, hrd, hk, q1⟩ => wpAny_bind (wpAny_standAt (wpAny_pure ?_))))
  subst ex
  cases rx
  obtain ⟨z1, hd1, vs0, r0, dd1⟩ := dk_of I2.hok e1
  cases r0
  obtain ⟨z2, hd2, vs, r2, dd2⟩ := dk_rd I2.hok hrd
  have lv : kvs.length = vs.length := Paired.length r2
  refine wpAny_mergeMapping_dict (knd := mixKind X.prog X.w) not_refK (Ne.symm hap) hd2 dd1 dd2 (fun h1 d1 _ sb1 => ?_) (by rw [sizeLine_eq, ← lv, List.length_nil]; omega)
  have hz3 : (mergeK [] kvs).length ≤ 1000 := by
    have := length_mergeK kvs []
    rw [List.length_nil] at this; omega
  have he1 : ∃ q, h1.get? s.heap.objs.size = some q := let ⟨q, _, _, hq, _⟩ := d1; ⟨q, hq⟩
  have I3 : Inv X pins σ (upd H1 s.heap.objs.size (.dK (mergeK [] kvs))) { s1 with heap := h1, toks := s1.toks } := d_write I2 (by rw [e1]; exact True.intro) sb1 he1 (dk_new (by rw [sizeLine_eq]; omega) hd1 (r2.merge .nil) d1)
  have hq3 := I3.hok.fresh (Nat.le_refl h1.objs.size)
  have I4 := I3.laid (a := h1.objs.size) (o := .dK []) (h' := h1.push { cls := .type "dict", data := .dict #[] }) (t' := s1.toks) (fun _ _ q => Heap.get?_push_of_some _ q) (Nat.le_refl _) (dk_empty h1 I3.big)
  refine wpAny_subDict (knd := mixKind X.prog X.w) (by rw [hn]; exact h15) (thn (h.run pins _ σ _ _ I4 (q1 _ hq3)) fun ws s2 ⟨ps, H2, I5, rel, eq2, ep2, kvs2, eps, lk, q2⟩ => ?_)
  subst eps
  obtain ⟨rs, c, rk⟩ := carries_of (P := X.prog) (w := X.w) rel
  obtain ⟨_, hdq, vs1, r1, ddq⟩ := dk_of I5.hok eq2
  cases r1
  refine ⟨rs, c, ddq, fun h' dd' hs => ?_⟩
  have hz5 : (mergeK [] kvs2).length ≤ 15 := by
    have := length_mergeK kvs2 []
    rw [List.length_nil] at this; omega
  have he2 : ∃ q, h'.get? h1.objs.size = some q := let ⟨q, _, _, hq, _⟩ := dd'; ⟨q, hq⟩
  have I6 : Inv X pins σ (upd H2 h1.objs.size (.dK (mergeK [] kvs2))) { s2 with heap := h', toks := s2.toks + ws.length } := d_write I5 (by rw [eq2]; exact True.intro) hs he2 (dk_new (by rw [sizeLine_eq]; omega) hdq (rk.merge .nil) dd')
  have npq : s.heap.objs.size ≠ h1.objs.size := by
    intro z
    rw [z, upd_same] at hq3
    cases hq3
  have ep6 : upd H2 h1.objs.size (.dK (mergeK [] kvs2)) s.heap.objs.size = some (.dK (mergeK [] kvs)) := by rw [upd_ne npq]; exact ep2
  have eq6 : upd H2 h1.objs.size (.dK (mergeK [] kvs2)) h1.objs.size = some (.dK (mergeK [] kvs2)) := upd_same
  obtain ⟨_, hdp6, vp6, rp6, ddp6⟩ := dk_of I6.hok ep6
  obtain ⟨_, hdq6, vq6, rq6, ddq6⟩ := dk_of I6.hok eq6
  have l1 : (mergeK [] kvs).length = vp6.length := Paired.length rp6
  have l2 : (mergeK [] kvs2).length = vq6.length := Paired.length rq6
  refine wpAny_mergeMapping_dict (knd := mixKind X.prog X.w) not_refK npq hdq6 ddp6 ddq6 (fun h2 d2 _ sb2 => ?_) (by rw [sizeLine_eq]; omega)
  have he7 : ∃ q, h2.get? s.heap.objs.size = some q := let ⟨q, _, _, hq, _⟩ := d2; ⟨q, hq⟩
  refine ⟨.ref s.heap.objs.size, _, d_write I6 (by rw [ep6]; exact True.intro) sb2 he7 (dk_new ?_ hdp6 (rq6.merge rp6) d2), rfl, q2⟩
  have := length_mergeK (mergeK [] kvs2) (mergeK [] kvs)
  rw [sizeLine_eq]; omega
end
end Gh
set_option linter.all false
set_option maxRecDepth 100000
set_option maxHeartbeats 1000000
namespace Gh
open PySem PySem.Spec PyProof.Rows L2

section
variable {K : PySem.W.Frag} {H0 : Fm} {g : Gs} {own : Own} {env : List Slot} {s : Src} {σ : L2.St} {H : Hp}
/-- an object that nobody knows is changed -/
theorem R.over (r : R K H0 g own env s σ H) {p : Addr} {o : HO} (gp : g.S p = none) (op : own p = none) (hp : H0.H0 p = none) (lp : ¬ g.isL p) : R K H0 g own env s σ (upd H p o) := by
  have ow : ∀ a i, own a = some i → a ≠ p := fun a i e z => by rw [z, op] at e; cases e
  refine ⟨r.len, fun a u e => ?_, fun a u e nl => ?_, r.prot, r.prL, ?_, r.locS, fun a i e => ?_, fun i v x e1 e2 => (r.slot i v x e1 e2).keeps (Le.refl g) fun a i o e h => ?_, r.lkd⟩
  · rw [upd_ne (ne_of_none e gp)]; exact r.sub a u e
  · rw [upd_ne (ne_of_none e hp)]; exact r.keep a u e nl
  · have q := r.src
    unfold SrcR at q ⊢
    split at q
    · trivial
    · rename_i a c st e
      have na : a ≠ p := fun z => lp ⟨a, c, e, .inl z.symm⟩
      have nc : c ≠ p := fun z => lp ⟨a, c, e, .inr z.symm⟩
      exact ⟨by rw [upd_ne na]; exact q.1, by rw [upd_ne nc]; exact q.2.1, q.2.2⟩
    · cases q
  · obtain ⟨h1, h2, u, h3, h4⟩ := r.own_ a i e
    exact ⟨h1, h2, u, by rw [upd_ne (ow a i e)]; exact h3, h4⟩
  · rw [upd_ne (ow a i e)]; exact h
/-- a new object of which nobody is to know while others are made -/
theorem R.held (r : R K H0 g own env s σ H) {p : Addr} {o : HO} (hp : H p = none) (nt : noTup o) : R K (H0.hold p o) g own env s σ (upd H p o) :=
  (r.alloc hp).hold (r.g0 hp) upd_same (r.gO hp) (r.gS hp) (r.gL hp) nt
theorem R.isHeld {p : Addr} {o : HO} (r : R K (H0.hold p o) g own env s σ H) : H p = some o ∧ g.S p = none ∧ ¬ g.isL p :=
  ⟨r.keep p o (by show upd H0.H0 p o p = _; exact upd_same) (r.prL p (.inl rfl)), (r.prot p (.inl rfl)).1, r.prL p (.inl rfl)⟩
/-- it is made: from now on it may be known -/
theorem PostF.put {t : T} {Q : VK} (h : PostF K H0 own env s σ t Q g) {p : Addr} {o o' : HO} (r : R K (H0.hold p o) g own env s σ H) (h0 : H0.H0 p = none) (hP : ¬ H0.P p) (op : own p = none) (ht : Top K g o' t) (nf : ∀ u w, o ≠ .frz u w := by intro _ _ z; cases z) : Q (.ref p) (upd H p o') :=
  have z := r.isHeld
  h g _ _ (Le.refl g) ((r.unhold h0 hP nf).over z.2.1 op h0 z.2.2) (.inr ⟨p, o', rfl, upd_same, ht, z.2.1, op, h0, z.2.2⟩)
end

section
variable {X : Cx} {Φ : String → List T → Src → Option (T × Src)} {x y z : Expr} {a b c : E} {pos p : Pos} {m : Bool}
/-! ### dicts -/
def trsOf (K : PySem.W.Frag) (Φ : String → List T → Src → Option (T × Src)) : List E → List (TE × TE)
  | [] => []
  | .kv k v :: r => (tE K Φ k false, tE K Φ v false) :: trsOf K Φ r
  | _ :: r => trsOf K Φ r
theorem disp_of {K : PySem.W.Frag} : ∀ {ds : List E} {H0 : Fm} {g : Gs} {own : Own} {env : List Slot} {s : Src} {σ : L2.St} {H : Hp} {ps : List (Gh.K × T)} {s' : Src} {Q : List (V × V) → Hp → Prop},
    R K H0 g own env s σ H → evD Φ ds env s = some (ps, s') → (∀ g' kvs H', Le g g' → R K H0 g' own env s' σ H' → RepK K g' kvs ps → Q (kvs.map fun kv => (kV kv.1, kv.2)) H') → tPairs (trsOf K Φ ds) σ H Q
  | [], H0, g, own, env, s, σ, H, ps, s', Q, r, e, q => by
    simp only [evD] at e
    cases e
    exact q g [] H (Le.refl g) r .nil
  | d :: ds, H0, g, own, env, s, σ, H, ps, s', Q, r, e, q => by
    cases d with
    | kv k v =>
      simp only [evD] at e
      split at e
      · cases e
      · rename_i tx s1 e1
        split at e
        · cases e
        · rename_i ty s2 e2
          split at e
          · cases e
          · rename_i kx hk
            split at e
            · cases e
            · rename_i rest s3 e3
              cases e
              refine ⟨H0, g, own, env, s, tx, s1, r, e1, fun g1 v1 H1 l1 r1 p1 => ?_⟩
              refine ⟨H0, g1, own, env, s1, ty, s2, r1, e2, fun g2 v2 H2 l2 r2 p2 => ?_⟩
              refine disp_of r2 e3 fun g3 kvs H3 l3 r3 p3 => ?_
              have hv : v1 = kV (kk kx) := keyK_rep (show Rep _ _ _ _ from p1) hk
              subst hv
              exact q g3 ((kk kx, v2) :: kvs) H3 (l1.trans (l2.trans l3)) r3 (.cons (Rep.mono l3 (show Rep _ _ _ _ from p2)) p3)
    | _ => simp [evD] at e
theorem s_dct0 : PE X (.Dict [] [] pos) (tF X.K Φ (.dct [])) := (pe_dnewK (X := X)).imp fun σ H Q ⟨H0, g, own, env, s, t, s', r, e, q⟩ p hp => by
  simp only [evE, evD] at e
  have e' : some (T.dK (merge [] []), s) = some (t, s') := by simpa using e
  cases e'
  have q' : PostF X.K H0 own env s σ (.dK []) Q g := q
  exact q'.made r hp (.dK .nil)
theorem s_dct {ks : List (Option Expr)} {vs : List Expr} {ds : List E} (h : PPs X pos ks vs (trsOf X.K Φ ds)) (hall : ks.all (·.isSome) = true) (hl : ks.length = vs.length) (h0 : ks ≠ []) (h15 : ks.length ≤ 15) : PE X (.Dict ks vs pos) (tF X.K Φ (.dct ds)) :=
  (pe_disp h hall hl h0 h15).imp fun σ H Q ⟨H0, g, own, env, s, t, s', r, e, q⟩ p hp => by
    simp only [evE] at e
    split at e
    · rename_i ps s1 e1
      split at e
      · rename_i h5
        cases e
        refine disp_of (r.held hp (o := .dK []) True.intro) e1 fun g1 kvs H1 l1 r1 p1 => ?_
        refine ⟨r1.isHeld.1, kvs, rfl, by rw [p1.length]; exact h5, ?_⟩
        have q' : PostF X.K H0 own env s' σ (.dK (merge [] ps)) Q g1 := fun g2 v H2 l2 r2 f2 => q g2 v H2 (l1.trans l2) r2 f2
        exact q'.put r1 (r.g0 hp) (r.gP hp) (r.gO hp) (.dK (merge_rep p1 .nil))
      · cases e
    · cases e
theorem s_dctS {ks : List (Option Expr)} {vs : List Expr} {ds : List E} (ha : PE X x (tE X.K Φ a true)) (h : PPs X pos ks vs (trsOf X.K Φ ds)) (hall : ks.all (·.isSome) = true) (hl : ks.length = vs.length) (h0 : ks ≠ []) (h15 : ks.length ≤ 15) : PE X (.Dict (none :: ks) (x :: vs) pos) (tF X.K Φ (.dctS a ds)) :=
  (pe_dispS ha h hall hl h0 h15).imp fun σ H Q ⟨H0, g, own, env, s, t, s', r, e, q⟩ p hp => by
    simp only [evE] at e
    split at e
    · rename_i kvs s1 e1
      split at e
      · rename_i hk
        split at e
        · rename_i ps s2 e2
          split at e
          · rename_i h5
            cases e
            refine ⟨_, g, own, env, s, _, s1, r.held hp (o := .dK []) True.intro, e1, fun g1 v H1 l1 r1 p1 => ?_⟩
            have z := r1.isHeld
            refine ⟨z.1, ?_⟩
            have hv := r1.val (show ValP _ _ _ _ _ _ _ from p1)
            cases hv with
            | @dK a kvs1 ts1 hrd hrep =>
            have nap : a ≠ p := by
              intro za
              subst za
              rcases (show ValP X.K g1 own env σ (.ref a) (.dK kvs) from p1) with p1 | ⟨i, w, h1, h2, h3, h4⟩
              · cases p1 with
                | dK hS _ => rw [z.2.1] at hS; cases hS
              · have sl := r1.slot i _ w h1 h2
                cases sl with
                | un => cases h3
                | sh _ => exact absurd rfl (h4 _)
                | ow f1 _ _ => rw [r.gO hp] at f1; cases f1
                | lk =>
                  obtain ⟨a', _, _, _, _, e2, _, e4, _⟩ := r.lkd i _ h2
                  rw [h1] at e2
                  cases e2
                  exact r.gP hp e4
                | ow2 _ _ _ _ => cases h3
            refine ⟨a, kvs1, rfl, nap, hrd, by rw [hrep.length]; exact hk, fun q' hq => ?_⟩
            have r2 := ((r1.unhold (r.g0 hp) (r.gP hp)).over (o := .dK (mergeK [] kvs1)) z.2.1 (r.gO hp) (r.g0 hp) z.2.2).hold (r.g0 hp) upd_same (r.gO hp) z.2.1 z.2.2 True.intro
            refine disp_of (r2.held hq (o := .dK []) True.intro) e2 fun g3 kvs2 H3 l3 r3 p3 => ?_
            have z3 := r3.isHeld
            have r4 := (r3.unhold (r2.g0 hq) (r2.gP hq)).over (o := .dK (mergeK [] kvs2)) z3.2.1 (r2.gO hq) (r2.g0 hq) z3.2.2
            have zz := (r3.unhold (r2.g0 hq) (r2.gP hq)).isHeld
            refine ⟨z3.1, zz.1, kvs2, rfl, by rw [p3.length]; exact h5, ?_⟩
            have q2 : PostF X.K H0 own env s' σ (.dK (merge (merge [] kvs) (merge [] ps))) Q g3 := fun g4 v H4 l4 r4 f4 => q g4 v H4 (l1.trans (l3.trans l4)) r4 f4
            exact q2.put r4 (r.g0 hp) (r.gP hp) (r.gO hp) (.dK (merge_rep (merge_rep p3 .nil) (merge_rep (hrep.mono l3) .nil)))
          · cases e
        · cases e
      · cases e
    · cases e

/-! ### d.get(k), d.get(k, v) -/
theorem isD_of {K : PySem.W.Frag} {g : Gs} {H : Hp} {v : V} {t k : T} {o : Option T} (h : RepT K g H v t) (e : dlook t k = some o) : ∃ a, v = .ref a ∧ IsD H a := by
  cases h with
  | dK h1 h2 => exact ⟨_, rfl, .inl ⟨_, h1⟩⟩
  | dT h1 h2 => exact ⟨_, rfl, .inr ⟨_, h1⟩⟩
  | _ => simp [dlook] at e
theorem s_get {apos cpos : Pos} (hu : X.A.units + 1 < cLine) (hm : M1 X x "get" apos y cpos) (ha : PE X x (tE X.K Φ a true)) (hb : PE X y (tE X.K Φ b false)) : PE X (.Call (.Attribute x "get" apos) [y] [] cpos) (tE X.K Φ (.get a b) m) :=
  (pe_dget1 hu ha hb hm).imp fun σ H Q ⟨H0, g, own, env, s, t, s', r, e, q⟩ => by
    simp only [evE] at e
    split at e
    · cases e
    · rename_i tx s1 e1
      split at e
      · cases e
      · rename_i ty s2 e2
        simp only [Option.map_eq_some_iff] at e
        obtain ⟨o, e3, e4⟩ := e
        cases e4
        refine ⟨H0, g, own, env, s, tx, s1, r, e1, fun g1 v H1 l1 r1 p1 => ?_⟩
        obtain ⟨ad, rfl, hd⟩ := isD_of (r1.val (show ValP _ _ _ _ _ _ _ from p1)) e3
        refine ⟨ad, rfl, hd, H0, g1, own, env, s1, ty, _, r1, e2, fun g2 u H2 l2 r2 p2 => ?_⟩
        obtain ⟨a', w, h1, h2, h3, h4⟩ := dget_of r2 (r2.val (ValP.mono l2 (show ValP _ _ _ _ _ _ _ from p1))) ((show Rep _ _ _ _ from p2).top r2.sub) e3
        cases h1
        refine ⟨w, h2, ?_⟩
        cases o with
        | none => rw [h4 rfl]; exact q g2 _ H2 (l1.trans l2) r2 (Val.ofRep .non)
        | some t => obtain ⟨v', rfl, hv⟩ := h3 t rfl; exact q g2 _ H2 (l1.trans l2) r2 (Val.ofRep hv)
theorem s_get2 {apos cpos : Pos} (hu : X.A.units + 1 < cLine) (hm : M2 X x "get" apos y z cpos) (ha : PE X x (tE X.K Φ a true)) (hb : PE X y (tE X.K Φ b false)) (hc : PE X z (tE X.K Φ c false)) : PE X (.Call (.Attribute x "get" apos) [y, z] [] cpos) (tE X.K Φ (.get2 a b c) m) :=
  (pe_dget2 hu ha hb hc hm).imp fun σ H Q ⟨H0, g, own, env, s, t, s', r, e, q⟩ => by
    simp only [evE] at e
    split at e
    · cases e
    · rename_i tx s1 e1
      split at e
      · cases e
      · rename_i ty s2 e2
        split at e
        · cases e
        · rename_i tz s3 e2'
          simp only [Option.map_eq_some_iff] at e
          obtain ⟨o, e3, e4⟩ := e
          cases e4
          refine ⟨H0, g, own, env, s, tx, s1, r, e1, fun g1 v H1 l1 r1 p1 => ?_⟩
          obtain ⟨ad, rfl, hd⟩ := isD_of (r1.val (show ValP _ _ _ _ _ _ _ from p1)) e3
          refine ⟨ad, rfl, hd, H0, g1, own, env, s1, ty, s2, r1, e2, fun g2 u H2 l2 r2 p2 => ?_⟩
          refine ⟨H0, g2, own, env, s2, tz, _, r2, e2', fun g3 u3 H3 l3 r3 p3 => ?_⟩
          obtain ⟨a', w, h1, h2, h3, h4⟩ := dget_of r3 (r3.val (ValP.mono (l2.trans l3) (show ValP _ _ _ _ _ _ _ from p1))) (((show Rep _ _ _ _ from p2).mono l3).top r3.sub) e3
          cases h1
          refine ⟨w, h2, ?_⟩
          cases o with
          | none => rw [h4 rfl]; exact q g3 _ H3 (l1.trans (l2.trans l3)) r3 (Val.ofRep p3)
          | some t => obtain ⟨v', rfl, hv⟩ := h3 t rfl; exact q g3 _ H3 (l1.trans (l2.trans l3)) r3 (Val.ofRep hv)
end
end Gh
set_option linter.all false
set_option maxRecDepth 100000
set_option maxHeartbeats 1000000
namespace Gh
open PySem PySem.Spec PyProof.Rows L2

section
variable {X : Cx} {tg : Expr}
/-! ### a list, a tuple or a range in a name -/
def iSeq (K : PySem.W.Frag) (tl : TE) : TI := fun σ H R => tl σ H fun x H1 => ∃ a, x = .ref a ∧ (((∃ xs, SqL K H1 a xs) ∧ R (Itl K a) H1) ∨ ((∃ xs, SqT K H1 a xs) ∧ R (Itt K a) H1) ∨
  ∃ lo hi, H1 a = some (.rng lo hi) ∧ (-(2 ^ 62) ≤ lo ∧ lo < 2 ^ 62 ∧ -(2 ^ 62) ≤ hi ∧ hi < 2 ^ 62) ∧ R (Itr lo (hi - lo).toNat) H1)
theorem pi_seq {l : Expr} {tl : TE} (hl : PE X l tl) : PI X tg l (iSeq X.K tl) := by
  refine ⟨fun pins s σ H R I h => ?_⟩
  refine thn (hl.run pins s σ H _ I h) fun v s1 ⟨x, H1, I1, r1, a, e, q1⟩ => ?_
  subst e
  cases r1
  have one : ∀ b, b ∈ [s1.heap.objs.size] → FpOk X pins H1 b := fun b hb => by
    have e : b = s1.heap.objs.size := by simpa using hb
    subst e
    exact I1.fpOk (Nat.le_refl _) (I1.hok.fresh (Nat.le_refl _))
  rcases q1 with ⟨⟨xs, hq⟩, q⟩ | ⟨⟨xs, hq⟩, q⟩ | ⟨lo, hi, hq, ⟨b1, b2, b3, b4⟩, q⟩
  · obtain ⟨its, rv, p, hz⟩ := I1.list hq
    refine wpAny_pyIter_list p.isList ?_
    exact ⟨s1.heap.objs.size, [s1.heap.objs.size], _, _, H1, rfl, (I1.kept (t' := s1.toks) fun b o e => Heap.get?_push_of_some _ e), turn_list a _, ⟨_, Heap.get?_push_size _ rfl, rfl, rfl⟩, one, q⟩
  · obtain ⟨its, rv, p, hz⟩ := I1.tuple hq
    refine wpAny_pyIter_tuple (show s1.heap.IsTuple a its.toArray from p) ?_
    exact ⟨s1.heap.objs.size, [s1.heap.objs.size], _, _, H1, rfl, (I1.kept (t' := s1.toks) fun b o e => Heap.get?_push_of_some _ e), turn_tuple a _, ⟨_, Heap.get?_push_size _ rfl, rfl, rfl⟩, one, q⟩
  · obtain ⟨t, u, v, ho⟩ := (show ∃ t u v, s1.heap.get? a = some { cls := .type "range", data := .fields #[.int lo t, .int hi u, .int 1 v] } from I1.hok a _ hq)
    refine wpAny_pyIter_range (show IsRange s1.heap a lo hi 1 t u v from ho) (small_one b1 b2 b3 b4) ?_
    refine ⟨s1.heap.objs.size, [s1.heap.objs.size], _, _, H1, rfl, (I1.kept (t' := s1.toks) fun b o e => Heap.get?_push_of_some _ e), turn_range _ lo (hi - lo).toNat, ?_, one, q⟩
    have e1 : lo + ((0 : Nat) : Int) * 1 = lo := by simp
    have e2 : (((hi - lo).toNat : Nat) : Int) - ((0 : Nat) : Int) = Builtin.Range.rangeSize lo hi 1 := by rw [rangeSize_one]; split <;> omega
    show IsRangeIter _ _ (lo + ((0 : Nat) : Int) * 1) ((((hi - lo).toNat : Nat) : Int) - ((0 : Nat) : Int)) 1
    rw [e1, e2]
    exact Heap.get?_push_size _ rfl
/-- range(j) as a value -/
theorem cr_range1 : CallR X (.type "range") (fun vs H Q => ∃ j, vs = [V.int j] ∧ ∀ p, H p = none → Q (.ref p) (upd H p (.rng 0 j))) := by
  intro pins s σ H xs us Q I r h
  obtain ⟨j, rfl, q⟩ := h
  cases r with
  | cons r1 rr =>
    cases rr
    obtain ⟨t, rfl⟩ := r1
    refine call_range_1 ⟨.ref s.heap.objs.size, upd H s.heap.objs.size (.rng 0 j), I.laid (t' := s.toks + 1 + 1) (fun b o e => Heap.get?_push_of_some _ e) (Nat.le_refl _) ?_, rfl, q _ (I.hok.fresh (Nat.le_refl _))⟩
    exact ⟨_, _, _, Heap.get?_push_size _ rfl⟩

/-! ### enumerate over a tuple -/
theorem enum_newT (l : Addr) (items : Array Value) (n : Nat) (dct : Option Addr) (sl : Array (Option Value)) :
    Meets (Builtin.«enumerate.__new__» ⟨[.type "enumerate", .ref l], []⟩) (fun _ R s => s.heap.get? l = some { cls := .type "tuple", dict := dct, data := .seq items n, slots := sl } ∧
      R (.ok (.ret (.ref (s.heap.push { cls := .type "tuple_iterator", data := .fields #[.ref l, .int 0 0] }).objs.size)))
        { s with heap := (s.heap.push { cls := .type "tuple_iterator", data := .fields #[.ref l, .int 0 0] }).push { cls := .type "enumerate", data := .fields #[.none, .bool false, .ref s.heap.objs.size, rawInt 0, .none, .none] } }) :=
  .of_wp fun prog w A R s h => by
    obtain ⟨hp, g, d, tk, os⟩ := s; obtain ⟨hl, h⟩ := h
    have hsub := sub_enumerate
    have hL : Heap.IsTuple (Shared.heap ⟨hp, g, d, tk, os⟩) l items := ⟨_, hl, rfl, n, rfl⟩
    wp_walk using AutoSeq1.wpAny_loadPart' hl
    refine wpAny_stack_any fun st => wpAny_pure ?_
    split
    · rename_i c _ _ _ _ _
      cases (c == Value.type "enumerate")
      · wp_walk using AutoSeq1.wpAny_loadPart' hl, wpAny_pyIter_tuple hL
        exact ⟨_, rfl, h⟩
      · wp_walk using AutoSeq1.wpAny_loadPart' hl, wpAny_pyIter_tuple hL
        exact ⟨_, rfl, h⟩
    · wp_walk using AutoSeq1.wpAny_loadPart' hl, wpAny_pyIter_tuple hL
      exact ⟨_, rfl, h⟩
theorem call_enumT {prog : Program} {w : World} {A : Around} {E : Value → Shared → Prop} {s : Shared} {l : Addr} {items : Array Value} {Q : Value → Shared → Prop} (hL : s.heap.IsTuple l items)
    (h : ∀ h', IsEnum h' (s.heap.objs.size + 1) s.heap.objs.size 0 .none → h'.IsTupleIter s.heap.objs.size l 0 → h'.objs.size = s.heap.objs.size + 2 →
      (∀ b o, s.heap.get? b = some o → h'.get? b = some o) → Q (.ref (s.heap.objs.size + 1)) { s with heap := h' }) :
    wpAny (model prog w) A (call (.type "enumerate") [.ref l]) Q E s := by
  obtain ⟨⟨c, dct, dt, sl⟩, hl, hc, n, hd⟩ := hL
  replace hc : c = .type "tuple" := hc
  replace hd : dt = .seq items n := hd
  subst hc hd
  refine callType_new F.called_enumerate (by decide) (F.typeCall_enumerate_1 _) (F.newCall_enumerate_1 _) (fun obj => F.args_object_init_2 obj _) F.entry_enumerate_new
    (enum_newT l items n dct sl) ⟨hl, ?_⟩
  have hz : (s.heap.push { cls := .type "tuple_iterator", data := .fields #[.ref l, .int 0 0] }).objs.size = s.heap.objs.size + 1 := Heap.size_push ..
  show _ ∧ _
  rw [hz]
  have he : IsEnum ((s.heap.push { cls := .type "tuple_iterator", data := .fields #[.ref l, .int 0 0] }).push
      { cls := .type "enumerate", data := .fields #[.none, .bool false, .ref s.heap.objs.size, rawInt 0, .none, .none] }) (s.heap.objs.size + 1) s.heap.objs.size 0 .none := by
    have := Heap.get?_push_size (s.heap.push { cls := .type "tuple_iterator", data := .fields #[.ref l, .int 0 0] })
      (o := { cls := .type "enumerate", data := .fields #[.none, .bool false, .ref s.heap.objs.size, rawInt 0, .none, .none] }) rfl
    rw [hz] at this; exact this
  exact ⟨⟨_, he, rfl⟩, h _ he ⟨_, Heap.get?_push_of_some _ (Heap.get?_push_size _ rfl), rfl, rfl⟩ (by rw [Heap.size_push, hz]) fun b o x => Heap.get?_push_of_some _ (Heap.get?_push_of_some _ x)⟩
def IteT (K : PySem.W.Frag) (a : Addr) : It :=
  ⟨fun i H => ∃ (xs : List V) (x : V), SqT K H a xs ∧ xs[i]? = some x, fun i H v H' => ∃ T x, v = .ref T ∧ H T = none ∧ H' = upd H T (.tup [.int (i : Nat), x]) ∧ ∀ xs, SqT K H a xs → xs[i]? = some x, fun i H => ∃ xs : List V, SqT K H a xs ∧ xs.length = i⟩
theorem turn_enumT {P : Program} {w : World} {K : PySem.W.Frag} {elts : List Expr} {kk : Nat} {tpos : Pos} (a e it : Addr) (hae : a ≠ e) (hai : a ≠ it) :
    Turn P w K (.Tuple elts kk tpos) (IteT K a) [e, it] e (fun i h => (∃ old, IsEnum h e it ((i : Nat) : Int) old) ∧ h.IsTupleIter it a i ∧ e ≠ it) where
  mem := by simp
  obj := fun i h st b hb => by
    obtain ⟨⟨old, he⟩, ⟨o, ho, hc, hd⟩, _⟩ := st
    have e' : b = e ∨ b = it := by simpa using hb
    rcases e' with z | z
    · rw [z]; exact ⟨_, he, fun v q => nomatch q⟩
    · rw [z]; exact ⟨o, ho, fun v q => by rw [hd] at q; cases q⟩
  keep := fun i h h' st k => let ⟨⟨old, he⟩, hi, hne⟩ := st; ⟨⟨old, k e (by simp) _ he⟩, hi.at fun o q => k it (by simp) o q, hne⟩
  item := by
    intro X hP hw hK hc i pins s σ H E I hf st hg
    subst hP hw hK
    obtain ⟨⟨old, he⟩, hit, hne⟩ := st
    obtain ⟨xs, x, hq, hx⟩ := hg
    obtain ⟨its, rv, p, hz⟩ := I.tuple hq
    obtain ⟨u, hu, ru⟩ := rv.get hx
    have hel : e < s.heap.objs.size := Heap.lt_size he
    have hil : it < s.heap.objs.size := by obtain ⟨_, q, _⟩ := hit; exact Heap.lt_size q
    have hlt : i < its.toArray.size := by
      have := (List.getElem?_eq_some_iff.mp hu).1
      simpa using this
    refine wpAny_pyNext_enum_itemD (Draws.tuple (A := X.A.in1) (I.ok.hd hc) it a hai its.toArray) he ⟨hit, p⟩ hlt hne (by simp [hne, Ne.symm hae]) fun x' h' tk hP ho hst hT hsz hk => ?_
    have ex : x' = u := by
      have h1 : its.toArray[i]? = some x' := hP
      have h2 : its.toArray[i]? = some u := by simpa using hu
      rw [h1] at h2
      exact Option.some.inj h2
    subst ex
    refine ⟨_, rfl, wpAny_letOwnedTupleGo_enum (s := { s with heap := h', toks := tk + 1 }) ho fun h'' he' sb => ?_⟩
    have hT2 : h''.get? s.heap.objs.size = some { cls := .type "tuple", data := .seq #[.int i tk, x'] } := (sb.2 _ (Nat.ne_of_gt hel)).trans hT
    have new : ObjOk X.prog X.w (upd H s.heap.objs.size (.tup [.int (i : Nat), x])) h'' s.heap.objs.size (.tup [.int (i : Nat), x]) :=
      ⟨by show 2 ≤ sizeLine; decide, [.int i tk, x'], .cons ⟨_, rfl⟩ (.cons ru .nil), ⟨_, hT2, rfl, _, rfl⟩⟩
    have I1 : Inv X pins σ (upd H s.heap.objs.size (.tup [.int (i : Nat), x])) { s with heap := h'', toks := tk + 1 } :=
      I.turnedNew (ch := [e, it]) (fun b ob hb q => (sb.2 b (fun z => hb (by simp [z]))).trans (hk b ob (fun z => hb (by simp [z])) (fun z => hb (by simp [z])) q)) hf (Nat.le_refl _) new
    refine ⟨.ref s.heap.objs.size, _, I1, rfl, ⟨_, x, rfl, I.hok.fresh (Nat.le_refl _), rfl, fun ys hy => by rw [I.tuple_inj hy hq]; exact hx⟩, ⟨⟨x', ?_⟩, hst.1.at fun o q => (sb.2 it (Ne.symm hne)).trans q, hne⟩, fun b hb => ?_⟩
    · have e1 : ((i + 1 : Nat) : Int) = (i : Int) + 1 := by omega
      rw [e1]; exact he'
    · have hb' : b < s.heap.objs.size := by
        have e' : b = e ∨ b = it := by simpa using hb
        rcases e' with z | z
        · rw [z]; exact hel
        · rw [z]; exact hil
      rw [upd_ne (Nat.ne_of_lt hb')]
      exact (hf b hb).1
  done := by
    intro X hP hw hK hc i pins s σ H E I hf st hg
    subst hP hw hK
    obtain ⟨⟨old, he⟩, hit, hne⟩ := st
    obtain ⟨xs, hq, hx⟩ := hg
    obtain ⟨its, rv, p, hz⟩ := I.tuple hq
    obtain ⟨f0, f1, f2, f3, f4, f5⟩ := hf it (by simp)
    have hl := rv.length
    have en : i = its.toArray.size := by simp; omega
    exact wpAny_pyNext_enum_endD (Draws.tuple (A := X.A.in1) (I.ok.hd hc) it a hai its.toArray) he (by rw [← en]; exact ⟨hit, p⟩) fun h' eb => ⟨rfl, I.turned (t' := s.toks) (fun b o hb q => eb b o hb q) f0 f1 f3 f4 f5⟩
  self := fun A i s Q E st h => let ⟨⟨_, he⟩, _⟩ := st; wpAny_pyIter_enum he h
def iEnumA (K : PySem.W.Frag) (ta : TA) : TI := fun σ H R => ta σ H fun vs H1 => ∃ a xs, vs = [.ref a] ∧ ((SqL K H1 a xs ∧ R (Ite K a) H1) ∨ (SqT K H1 a xs ∧ R (IteT K a) H1))
theorem pi_enumA {e : Expr} {ta : TA} {p pos tpos : Pos} {elts : List Expr} {kk : Nat} (hg : Gl X "enumerate") (hm : X.mg "enumerate" = none) (ha : PA X [e] ta) (hs : starEach [e] X.env = [(false, eval e X.env)]) :
    PI X (.Tuple elts kk tpos) (.Call (.Name "enumerate" p) [e] [] pos) (iEnumA X.K ta) := by
  refine ⟨fun pins s σ H R I h => ?_⟩
  refine Call_ (ld_blt I hg hm boot_enumerate (PyProof.Rows.callWith_type1 (thn (ha.run pos pins s σ H _ I h) fun us s1 ⟨vs, H1, I1, r1, q1⟩ => ?_) hs rfl))
  obtain ⟨a, xs, ex, q1⟩ := q1
  subst ex
  cases r1 with
  | cons r rr =>
    cases rr
    cases r
    have fresh : ∀ b, b ∈ [s1.heap.objs.size + 1, s1.heap.objs.size] → FpOk X pins H1 b := fun b hb => by
      have e' : b = s1.heap.objs.size + 1 ∨ b = s1.heap.objs.size := by simpa using hb
      have hle : s1.heap.objs.size ≤ b := by omega
      exact I1.fpOk hle (I1.hok.fresh hle)
    rcases q1 with ⟨hq, q⟩ | ⟨hq, q⟩
    · obtain ⟨its, rv, p', hz⟩ := I1.list hq
      refine call_enumerate_list p'.isList fun h' he hit hsz hk => wpAny_pyIter_enum he ?_
      exact ⟨s1.heap.objs.size + 1, [s1.heap.objs.size + 1, s1.heap.objs.size], _, _, H1, rfl, I1.kept (t' := s1.toks) hk, turn_enum a (s1.heap.objs.size + 1) s1.heap.objs.size, ⟨⟨.none, he⟩, hit, Nat.succ_ne_self _⟩, fresh, q⟩
    · obtain ⟨its, rv, p', hz⟩ := I1.tuple hq
      have la : a < s1.heap.objs.size := by obtain ⟨_, q, _⟩ := id p'; exact Heap.lt_size q
      refine call_enumT (show s1.heap.IsTuple a its.toArray from p') fun h' he hit hsz hk => wpAny_pyIter_enum he ?_
      exact ⟨s1.heap.objs.size + 1, [s1.heap.objs.size + 1, s1.heap.objs.size], _, _, H1, rfl, I1.kept (t' := s1.toks) hk, turn_enumT a (s1.heap.objs.size + 1) s1.heap.objs.size (Nat.ne_of_lt (Nat.lt_succ_of_lt la)) (Nat.ne_of_lt la), ⟨⟨.none, he⟩, hit, Nat.succ_ne_self _⟩, fresh, q⟩
theorem walk_enumT {K : PySem.W.Frag} {a : Addr} {xs : List V} : Walk (IteT K a) xs.length (fun H => SqT K H a xs) (YPair (fun i => some (.int (i : Nat))) (fun i => xs[i]?)) := by
  refine ⟨fun i _ hi q => ⟨xs, xs[i], q, by simp [hi]⟩, fun _ q => ⟨xs, q, rfl⟩, fun i H v H' _ q y => ?_⟩
  obtain ⟨T, x, h1, h2, h3, h4⟩ := y
  exact ⟨T, .int (i : Nat), x, h1, h2, h3, rfl, h4 xs q⟩
theorem walk_zipT {K : PySem.W.Frag} {a b : Addr} {xs ys : List V} {n : Nat} (hn : n = min xs.length ys.length) : Walk (RZ.ItzT K a b) n (fun H => SqT K H a xs ∧ SqT K H b ys) (YPair (fun i => xs[i]?) (fun i => ys[i]?)) := by
  subst hn
  refine ⟨fun i _ hi q => ?_, fun _ q => ⟨xs, ys, q.1, q.2, by omega⟩, fun i H v H' _ q y => ?_⟩
  · have h1 : i < xs.length := by omega
    have h2 : i < ys.length := by omega
    exact ⟨xs, ys, xs[i], ys[i], q.1, q.2, by simp [h1], by simp [h2]⟩
  · obtain ⟨T, x, z, h1, h2, h3, h4, h5⟩ := y
    exact ⟨T, x, z, h1, h2, h3, h4 xs q.1, h5 ys q.2⟩
end
end Gh
set_option linter.all false
set_option maxRecDepth 100000
set_option maxHeartbeats 1000000
namespace Gh
open PySem PySem.Spec PyProof.Rows L2

mutual
/-- the slots whose own containers are walked -/
def fvI : E → List Nat
  | .var i => [i]
  | .enum e => fvI e
  | .zip es => fvIs es
  | _ => []
def fvIs : List E → List Nat
  | [] => []
  | e :: r => fvI e ++ fvIs r
end
def isVar : E → Bool
  | .var _ => true
  | _ => false
/-- what is walked stands as it was -/
def Same (m : Bool) (fv : List Nat) (own : Own) (env : List Slot) (σ : L2.St) (own' : Own) (env' : List Slot) (σ' : L2.St) : Prop := m = true → own' = own ∧ ∀ i ∈ fv, env'[i]? = env[i]? ∧ σ'[i]? = σ[i]?
theorem Same.refl {m : Bool} {fv : List Nat} {own : Own} {env : List Slot} {σ : L2.St} : Same m fv own env σ own env σ := fun _ => ⟨rfl, fun _ _ => ⟨rfl, rfl⟩⟩
theorem Same.sub {m : Bool} {fv fv' : List Nat} {own own' : Own} {env env' : List Slot} {σ σ' : L2.St} (h : Same m fv own env σ own' env' σ') (k : ∀ i ∈ fv', i ∈ fv) : Same m fv' own env σ own' env' σ' := fun e => ⟨(h e).1, fun i hi => (h e).2 i (k i hi)⟩
def OpdP (K : PySem.W.Frag) (m : Bool) (fv : List Nat) (g : Gs) (own : Own) (env : List Slot) (σ : L2.St) (v : V) (t : T) : Prop :=
  Rep K g v t ∨ (m = true ∧ ∃ (i : Nat) (x : Slot), i ∈ fv ∧ σ[i]? = some (some v) ∧ env[i]? = some x ∧ contS x = some t ∧ ∀ u, x ≠ .sh u)
theorem OpdP.mono {K : PySem.W.Frag} {m : Bool} {fv : List Nat} {g g' : Gs} (l : Le g g') {own : Own} {env : List Slot} {σ : L2.St} {v : V} {t : T} : OpdP K m fv g own env σ v t → OpdP K m fv g' own env σ v t
  | .inl r => .inl (r.mono l)
  | .inr h => .inr h
theorem opd_val {K : PySem.W.Frag} {m : Bool} {fv : List Nat} {g g' : Gs} {own own' : Own} {env env' : List Slot} {σ σ' : L2.St} {v : V} {t : T} {H0 : Fm} {s : Src} {H : Hp} (h : OpdP K m fv g own env σ v t) (l : Le g g')
    (sm : Same m fv own env σ own' env' σ') (r : R K H0 g' own' env' s σ' H) : RepT K g' H v t := by
  rcases h with h | ⟨hm, i, x, hi, h1, h2, h3, h4⟩
  · exact (h.mono l).top r.sub
  · obtain ⟨e1, e2⟩ := sm hm
    obtain ⟨e3, e4⟩ := e2 i hi
    exact r.val (.inr ⟨i, x, e4.trans h1, e3.trans h2, h3, h4⟩)
section
variable {X : Cx} {Φ : String → List T → Src → Option (T × Src)} {x y z : Expr} {a b c : E} {pos p : Pos} {m : Bool} {tg : Expr}
def tO (K : PySem.W.Frag) (Φ : String → List T → Src → Option (T × Src)) (e : E) (m : Bool) : TE := fun σ H Q => ∃ H0 g own env s t s', R K H0 g own env s σ H ∧ evE Φ e m env s = some (t, s') ∧ ∀ g' v H', Le g g' → R K H0 g' own env s' σ H' → OpdP K m (fvI e) g' own env σ v t → Q v H'
theorem o_of (hm : ∀ env s, evE Φ a m env s = evE Φ a false env s) (h : PE X x (tE X.K Φ a false)) : PE X x (tO X.K Φ a m) := h.imp fun σ H Q ⟨H0, g, own, env, s, t, s', r, e1, q⟩ =>
  ⟨H0, g, own, env, s, t, s', r, by rw [← hm]; exact e1, fun g' v H' l r' p => q g' v H' l r' (.inl p)⟩
theorem o_var {i : Nat} (h : PE X x (tVar i)) : PE X x (tO X.K Φ (.var i) m) := h.imp fun σ H Q ⟨H0, g, own, env, s, t, s', r, e, q⟩ => by
  simp only [evE] at e
  have sl : ∀ w, env[i]? = some w → ∃ o, σ[i]? = some o ∧ SlotR X.K g own H i o w := fun w hw => by
    have hi : i < σ.length := by rw [r.len]; exact (List.getElem?_eq_some_iff.mp hw).1
    exact ⟨σ[i], List.getElem?_eq_getElem hi, r.slot i _ w (List.getElem?_eq_getElem hi) hw⟩
  have mem : i ∈ fvI (E.var i) := by simp [fvI]
  split at e
  · rename_i u hu
    cases e
    obtain ⟨o, ho, hs⟩ := sl _ hu
    cases hs with
    | sh z => exact ⟨_, ho, q g _ H (Le.refl g) r (.inl z)⟩
  · rename_i u hu
    cases m <;> simp at e
    obtain ⟨rfl, rfl⟩ := e
    obtain ⟨o, ho, hs⟩ := sl _ hu
    cases hs with
    | ow z1 z2 z3 => exact ⟨_, ho, q g _ H (Le.refl g) r (.inr ⟨rfl, i, _, mem, ho, hu, rfl, fun u h => by cases h⟩)⟩
  · rename_i u hu
    cases m <;> simp at e
    obtain ⟨rfl, rfl⟩ := e
    obtain ⟨o, ho, hs⟩ := sl _ hu
    cases hs with
    | lk =>
      obtain ⟨a, _, _, _, _, e2, _⟩ := r.lkd i _ hu
      exact ⟨_, e2, q g _ H (Le.refl g) r (.inr ⟨rfl, i, _, mem, e2, hu, rfl, fun u h => by cases h⟩)⟩
  · cases e
def tI (K : PySem.W.Frag) (Φ : String → List T → Src → Option (T × Src)) (e : E) (m : Bool) : TI := fun σ H Rr => ∃ H0 g own env s ts s', R K H0 g own env s σ H ∧ (evE Φ e m env s).bind seqS = some (ts, s') ∧
  ∀ (g1 : Gs) (J : It) (G : Hp → Prop) (Y : Nat → Hp → V → Hp → Prop) (H1 : Hp), Le g g1 → R K H0 g1 own env s' σ H1 → Walk J ts.length G Y →
    (∀ H0' g' own' env' s'' σ' H', Le g1 g' → Same m (fvI e) own env σ own' env' σ' → R K H0' g' own' env' s'' σ' H' → G H') →
    (∀ (i : Nat) (x : V) H0' g' own' env' s'' σ' H' H'', i < ts.length → Le g1 g' → Same m (fvI e) own env σ own' env' σ' → R K H0' g' own' env' s'' σ' H' → Y i H' x H'' → ∃ g2 t, ts[i]? = some t ∧ Le g' g2 ∧ R K H0' g2 own' env' s'' σ' H'' ∧ Rep K g2 x t) → Rr J H1
/-- a list or tuple as it stands -/
inductive SeqV (K : PySem.W.Frag) (g : Gs) (H : Hp) : V → T → List T → Prop
  | lst {a : Addr} {xs : List V} {ts : List T} : SqL K H a xs → Reps K g xs ts → SeqV K g H (.ref a) (.lst ts) ts
  | tup {a : Addr} {xs : List V} {ts : List T} : SqT K H a xs → Reps K g xs ts → SeqV K g H (.ref a) (.tup ts) ts
  | ptup {a : Addr} {xs : List V} {ts : List T} : SqT K H a xs → Reps K g xs ts → SeqV K g H (.ref a) (.ptup ts) ts
theorem seqV_of {K : PySem.W.Frag} {H0 : Fm} {g : Gs} {own : Own} {env : List Slot} {s : Src} {σ : L2.St} {H : Hp} {v : V} {t : T} {ts : List T} (r : R K H0 g own env s σ H) (h : RepT K g H v t) (e : seqN t = some ts) : SeqV K g H v t ts := by
  cases h with
  | tup h1 h2 => cases e; exact .tup (r.st h1) h2
  | ptup h1 hd h2 => cases e; exact .ptup (.inl (.inr ⟨_, r.sub _ _ h1⟩)) h2
  | lst h1 h2 => cases e; exact .lst (SqL.of h1) h2
  | _ => cases e
theorem int_rep {i : Nat} {lo : Int} {n : Nat} (h : i < n) : (rgInts lo n)[i]? = some (.int (lo + (i : Int))) := by
  unfold rgInts
  rw [List.getElem?_map, List.getElem?_range h]; rfl
theorem rgInts_length (lo : Int) (n : Nat) : (rgInts lo n).length = n := by simp [rgInts]
/-- the i-th of what stands -/
theorem SeqV.at {K : PySem.W.Frag} {g : Gs} {H : Hp} {v : V} {t : T} {ts : List T} (h : SeqV K g H v t ts) : (∃ a xs, v = .ref a ∧ ((∃ us, t = .lst us) ∧ SqL K H a xs ∨ (∀ us, t ≠ .lst us) ∧ SqT K H a xs) ∧ Reps K g xs ts) := by
  cases h with
  | lst h1 h2 => exact ⟨_, _, rfl, .inl ⟨⟨_, rfl⟩, h1⟩, h2⟩
  | tup h1 h2 => exact ⟨_, _, rfl, .inr ⟨fun us z => (by cases z), h1⟩, h2⟩
  | ptup h1 h2 => exact ⟨_, _, rfl, .inr ⟨fun us z => (by cases z), h1⟩, h2⟩
def isLst : T → Bool
  | .lst _ => true
  | _ => false
/-- the sequence at a is of the kind k, and of length n -/
def SqK (K : PySem.W.Frag) (k : Bool) (H : Hp) (a : Addr) (xs : List V) : Prop := if k = true then SqL K H a xs else SqT K H a xs
theorem SeqV.sq {K : PySem.W.Frag} {g : Gs} {H : Hp} {a : Addr} {t : T} {ts : List T} (h : SeqV K g H (.ref a) t ts) : ∃ xs, SqK K (isLst t) H a xs ∧ Reps K g xs ts := by
  cases h with
  | lst h1 h2 => exact ⟨_, h1, h2⟩
  | tup h1 h2 => exact ⟨_, h1, h2⟩
  | ptup h1 h2 => exact ⟨_, h1, h2⟩
/-- over a value -/
theorem i_seq (h : PE X x (tO X.K Φ a m)) : PI X tg x (tI X.K Φ a m) := ⟨fun pins s σ H Rr I w => (pi_seq h).run pins s σ H Rr I (by
  obtain ⟨H0, g, own, env, sr, ts, s', r, e, q⟩ := w
  cases e1 : evE Φ a m env sr with
  | none => rw [e1] at e; cases e
  | some pr =>
    obtain ⟨t, s1⟩ := pr
    rw [e1] at e
    simp only [Option.bind_some, seqS, Option.map_eq_some_iff] at e
    obtain ⟨us, e2, e3⟩ := e
    cases e3
    refine ⟨H0, g, own, env, sr, t, _, r, e1, fun g1 v H1 l1 r1 p1 => ?_⟩
    have hv := opd_val p1 (Le.refl _) Same.refl r1
    cases en : seqN t with
    | some ws =>
      have eu : ts = ws := by
        cases t <;> first | (cases en; done) | (simp only [seqOf, seqN, Option.some.injEq] at e2 en; rw [← e2, ← en])
      subst eu
      have hs := seqV_of r1 hv en
      obtain ⟨ad, xs, rfl, hk, hr⟩ := hs.at
      refine ⟨ad, rfl, ?_⟩
      have later : ∀ H0' g' own' env' s'' σ' H', Le g1 g' → Same m (fvI a) own env σ own' env' σ' → R X.K H0' g' own' env' s'' σ' H' → ∃ xs, SqK X.K (isLst t) H' ad xs ∧ Reps X.K g' xs ts := fun H0' g' own' env' s'' σ' H' l sm r' => (seqV_of r' (opd_val p1 l sm r') en).sq
      rcases hk with ⟨⟨vs, rfl⟩, hk⟩ | ⟨hnl, hk⟩
      · refine .inl ⟨⟨xs, hk⟩, q g1 (Itl X.K ad) (fun H => ∃ xs, SqL X.K H ad xs ∧ xs.length = ts.length) (Itl X.K ad).yld H1 l1 r1 ⟨fun i H hi ⟨ys, h1, h2⟩ => ⟨ys, ys[i]'(by omega), h1, by simp⟩, fun H ⟨ys, h1, h2⟩ => ⟨ys, h1, by omega⟩, fun i H x H' _ _ y => y⟩ ?_ ?_⟩
        · intro H0' g' own' env' s'' σ' H' l sm r'
          obtain ⟨ys, h1, h2⟩ := later H0' g' own' env' s'' σ' H' l sm r'
          exact ⟨ys, h1, h2.length⟩
        · rintro i x H0' g' own' env' s'' σ' H' H'' hi l sm r' ⟨rfl, hy⟩
          obtain ⟨ys, h1, h2⟩ := later H0' g' own' env' s'' σ' _ l sm r'
          obtain ⟨t', h3, h4⟩ := h2.get' (hy ys h1)
          exact ⟨g', t', h3, Le.refl _, r', h4⟩
      · have ek : isLst t = false := by cases t <;> first | rfl | exact absurd rfl (hnl _)
        refine .inr (.inl ⟨⟨xs, hk⟩, q g1 (Itt X.K ad) (fun H => ∃ xs, SqT X.K H ad xs ∧ xs.length = ts.length) (Itt X.K ad).yld H1 l1 r1 ⟨fun i H hi ⟨ys, h1, h2⟩ => ⟨ys, ys[i]'(by omega), h1, by simp⟩, fun H ⟨ys, h1, h2⟩ => ⟨ys, h1, by omega⟩, fun i H x H' _ _ y => y⟩ ?_ ?_⟩)
        · intro H0' g' own' env' s'' σ' H' l sm r'
          obtain ⟨ys, h1, h2⟩ := later H0' g' own' env' s'' σ' H' l sm r'
          rw [ek] at h1
          exact ⟨ys, h1, h2.length⟩
        · rintro i x H0' g' own' env' s'' σ' H' H'' hi l sm r' ⟨rfl, hy⟩
          obtain ⟨ys, h1, h2⟩ := later H0' g' own' env' s'' σ' _ l sm r'
          rw [ek] at h1
          obtain ⟨t', h3, h4⟩ := h2.get' (hy ys h1)
          exact ⟨g', t', h3, Le.refl _, r', h4⟩
    | none =>
      cases t with
      | rng lo hi =>
        cases hv with
        | @rng ad _ _ hg =>
        simp only [seqOf, Option.ite_none_right_eq_some, Option.some.injEq] at e2
        obtain ⟨hb, rfl⟩ := e2
        simp only [rngB, Bool.and_eq_true, decide_eq_true_eq] at hb
        obtain ⟨⟨⟨b1, b2⟩, b3⟩, b4⟩ := hb
        refine ⟨ad, rfl, .inr (.inr ⟨lo, hi, r1.sub _ _ hg, ⟨by omega, by omega, by omega, by omega⟩, q g1 (Itr lo (hi - lo).toNat) (fun _ => True) (YFn fun i => .int (lo + i)) H1 l1 r1 (by rw [rgInts_length]; exact walk_range) (fun _ _ _ _ _ _ _ _ _ _ => True.intro) ?_⟩)⟩
        rintro i x H0' g' own' env' s'' σ' H' H'' hi l sm r' ⟨rfl, rfl⟩
        rw [rgInts_length] at hi
        exact ⟨g', _, int_rep hi, Le.refl _, r', .int _⟩
      | _ => first | (cases e2; done) | (cases en; done))⟩

/-! ### range(..) on the spot -/
theorem seqS_rng {lo hi : Int} {s1 : Src} {ts : List T} {s' : Src} (e : seqS (.rng lo hi, s1) = some (ts, s')) : rngB lo hi = true ∧ ts = rgInts lo (hi - lo).toNat ∧ s' = s1 := by
  simp only [seqS, seqOf, Option.map_eq_some_iff, Option.ite_none_right_eq_some, Option.some.injEq] at e
  obtain ⟨xs, ⟨h1, rfl⟩, h2⟩ := e
  cases h2
  exact ⟨h1, rfl, rfl⟩
theorem rng_walk {K : PySem.W.Frag} {lo hi : Int} {e : E} {m : Bool} {own : Own} {env : List Slot} {σ : L2.St} {g1 : Gs} (i : Nat) (x : V) (H0' : Fm) (g' : Gs) (own' : Own) (env' : List Slot) (s'' : Src) (σ' : L2.St) (H' H'' : Hp) (hi' : i < (rgInts lo (hi - lo).toNat).length) (l : Le g1 g')
    (sm : Same m (fvI e) own env σ own' env' σ') (r' : R K H0' g' own' env' s'' σ' H') (y : YFn (fun i => V.int (lo + i)) i H' x H'') : ∃ g2 t, (rgInts lo (hi - lo).toNat)[i]? = some t ∧ Le g' g2 ∧ R K H0' g2 own' env' s'' σ' H'' ∧ Rep K g2 x t := by
  obtain ⟨rfl, rfl⟩ := y
  rw [rgInts_length] at hi'
  exact ⟨g', _, int_rep hi', Le.refl _, r', .int _⟩
theorem i_range1 (hg : Gl X "range") (hm : X.mg "range" = none) (ha : PE X x (tE X.K Φ a true)) (hs : isStar x = false) : PI X tg (.Call (.Name "range" p) [x] [] pos) (tI X.K Φ (.range [a]) m) := ⟨fun pins s σ H Rr I w =>
  (pi_range1 hg hm (pa_cons ha pa_nil (starEach_cons hs)) (starEach_cons hs)).run pins s σ H Rr I (by
  obtain ⟨H0, g, own, env, sr, ts, s', r, e, q⟩ := w
  simp only [evE, evTs] at e
  cases e1 : evE Φ a true env sr with
  | none => rw [e1] at e; cases e
  | some pr =>
    obtain ⟨t, s1⟩ := pr
    rw [e1] at e
    refine ⟨H0, g, own, env, sr, t, _, r, e1, fun g1 v H1 l1 r1 p1 => ?_⟩
    have hv := r1.val (show ValP _ _ _ _ _ _ _ from p1)
    cases hv <;> simp only [rangeT, Option.map_none, Option.bind_none, reduceCtorEq, Option.bind_some] at e
    rename_i j
    split at e
    · rename_i hj
      simp only [Option.map_some, Option.bind_some] at e
      obtain ⟨hb, rfl, rfl⟩ := seqS_rng e
      refine ⟨j, rfl, by omega, by omega, q g1 (Itr 0 j.toNat) (fun _ => True) (YFn fun i => .int (0 + i)) H1 l1 r1 (by rw [rgInts_length, show j - 0 = j by omega]; exact walk_range) (fun _ _ _ _ _ _ _ _ _ _ => True.intro) (rng_walk (e := .range [a]))⟩
    · cases e)⟩
theorem i_range2 (hg : Gl X "range") (hm : X.mg "range" = none) (ha : PE X x (tE X.K Φ a true)) (hb : PE X y (tE X.K Φ b true)) (hs : isStar x = false) (hs2 : isStar y = false) : PI X tg (.Call (.Name "range" p) [x, y] [] pos) (tI X.K Φ (.range [a, b]) m) := ⟨fun pins s σ H Rr I w =>
  (pi_range2 hg hm (pa_cons ha (pa_cons hb pa_nil (starEach_cons hs2)) (starEach_cons hs)) (by rw [starEach_cons hs, starEach_cons hs2]; rfl) (by rw [starEach_cons hs2]; rfl)).run pins s σ H Rr I (by
  obtain ⟨H0, g, own, env, sr, ts, s', r, e, q⟩ := w
  simp only [evE, evTs] at e
  cases e1 : evE Φ a true env sr with
  | none => rw [e1] at e; cases e
  | some pr =>
    obtain ⟨t, s1⟩ := pr
    rw [e1] at e
    simp only at e
    cases e2 : evE Φ b true env s1 with
    | none => rw [e2] at e; cases e
    | some pr =>
      obtain ⟨t2, s2⟩ := pr
      rw [e2] at e
      simp only at e
      refine ⟨H0, g, own, env, sr, t, _, r, e1, fun g1 v H1 l1 r1 p1 => ?_⟩
      refine ⟨H0, g1, own, env, s1, t2, _, r1, e2, fun g2 u H2 l2 r2 p2 => ?_⟩
      have hv := r2.val (ValP.mono l2 (show ValP _ _ _ _ _ _ _ from p1))
      have hu := r2.val (show ValP _ _ _ _ _ _ _ from p2)
      cases hv <;> cases hu <;> simp only [rangeT, Option.map_none, Option.bind_none, reduceCtorEq, Option.bind_some] at e
      rename_i j k
      split at e
      · rename_i hj
        simp only [Option.map_some, Option.bind_some] at e
        obtain ⟨hb, rfl, rfl⟩ := seqS_rng e
        exact ⟨j, k, rfl, ⟨by omega, by omega, by omega, by omega⟩, q g2 (Itr j (k - j).toNat) (fun _ => True) (YFn fun i => .int (j + i)) H2 (l1.trans l2) r2 (by rw [rgInts_length]; exact walk_range) (fun _ _ _ _ _ _ _ _ _ _ => True.intro) (rng_walk (e := .range [a, b]))⟩
      · cases e)⟩
/-! ### enumerate, zip -/
theorem numT_length : ∀ (k : Nat) (xs : List T), (numT k xs).length = xs.length
  | _, [] => rfl
  | k, x :: xs => by simp [numT, numT_length (k + 1) xs]
theorem numT_at : ∀ (k : Nat) (xs : List T) (i : Nat) (t : T), xs[i]? = some t → (numT k xs)[i]? = some (.tup [.int ((k + i : Nat) : Int), t])
  | _, [], i, t, h => by simp at h
  | k, x :: xs, 0, t, h => by simp at h; subst h; simp [numT]
  | k, x :: xs, i + 1, t, h => by
    have := numT_at (k + 1) xs i t (by simpa using h)
    simp only [numT, List.getElem?_cons_succ, this]
    congr 4
    omega
theorem R.pair {K : PySem.W.Frag} {H0 : Fm} {g : Gs} {own : Own} {env : List Slot} {s : Src} {σ : L2.St} {H : Hp} (r : R K H0 g own env s σ H) {T0 : Addr} {vs : List V} {ts : List T} (hT : H T0 = none) (h : Reps K g vs ts) :
    ∃ g2, Le g g2 ∧ R K H0 g2 own env s σ (upd H T0 (.tup vs)) ∧ Rep K g2 (.ref T0) (.tup ts) :=
  ⟨g.add T0 (.tup vs), Le.add (r.gS hT), r.new hT, .tup (show upd g.S T0 _ T0 = _ from upd_same) (h.mono (Le.add (r.gS hT)))⟩
theorem i_enum {kk : Nat} {tpos : Pos} {elts : List Expr} (hg : Gl X "enumerate") (hm : X.mg "enumerate" = none) (ha : PE X x (tO X.K Φ a m)) (hs : isStar x = false) :
    PI X (.Tuple elts kk tpos) (.Call (.Name "enumerate" p) [x] [] pos) (tI X.K Φ (.enum a) m) := ⟨fun pins s σ H Rr I w =>
  (pi_enumA hg hm (pa_cons ha pa_nil (starEach_cons hs)) (starEach_cons hs)).run pins s σ H Rr I (by
  obtain ⟨H0, g, own, env, sr, ts, s', r, e, q⟩ := w
  simp only [evE] at e
  cases e1 : evE Φ a m env sr with
  | none => rw [e1] at e; cases e
  | some pr =>
    obtain ⟨t, s1⟩ := pr
    rw [e1] at e
    simp only [seqS, Option.bind_eq_some_iff, Option.map_eq_some_iff] at e
    obtain ⟨pr', ⟨us, e2, e3⟩, e4⟩ := e
    subst e3
    obtain ⟨ws, e5, e6⟩ := e4
    simp only [seqOf, Option.some.injEq] at e5
    subst e5
    cases e6
    have en : seqN t = some us := e2
    refine ⟨H0, g, own, env, sr, t, _, r, e1, fun g1 v H1 l1 r1 p1 => ?_⟩
    have hv := opd_val p1 (Le.refl _) Same.refl r1
    have hs := seqV_of r1 hv en
    obtain ⟨ad, xs, rfl, hk, hr⟩ := hs.at
    have later : ∀ H0' g' own' env' s'' σ' H', Le g1 g' → Same m (fvI (.enum a)) own env σ own' env' σ' → R X.K H0' g' own' env' s'' σ' H' → ∃ xs, SqK X.K (isLst t) H' ad xs ∧ Reps X.K g' xs us := fun H0' g' own' env' s'' σ' H' l sm r' => (seqV_of r' (opd_val p1 l sm r') en).sq
    refine ⟨ad, xs, rfl, ?_⟩
    rcases hk with ⟨⟨vs, rfl⟩, hk⟩ | ⟨hnl, hk⟩
    · refine .inl ⟨hk, q g1 (Ite X.K ad) (fun H => ∃ xs, SqL X.K H ad xs ∧ xs.length = us.length) (Ite X.K ad).yld H1 l1 r1 (by rw [numT_length]; exact ⟨fun i H hi ⟨ys, h1, h2⟩ => ⟨ys, ys[i]'(by omega), h1, by simp⟩, fun H ⟨ys, h1, h2⟩ => ⟨ys, h1, by omega⟩, fun i H x H' _ _ y => y⟩) ?_ ?_⟩
      · intro H0' g' own' env' s'' σ' H' l sm r'
        obtain ⟨ys, h1, h2⟩ := later H0' g' own' env' s'' σ' H' l sm r'
        exact ⟨ys, h1, h2.length⟩
      · rintro i x H0' g' own' env' s'' σ' H' H'' hi l sm r' ⟨T0, y, rfl, hT, rfl, hy⟩
        obtain ⟨ys, h1, h2⟩ := later H0' g' own' env' s'' σ' _ l sm r'
        obtain ⟨t', h3, h4⟩ := h2.get' (hy ys h1)
        obtain ⟨g2, h5, h6, h7⟩ := r'.pair hT (.cons (.int (i : Nat)) (.cons h4 .nil))
        exact ⟨g2, _, numT_at 0 us i t' h3, h5, h6, by simpa using h7⟩
    · have ek : isLst t = false := by cases t <;> first | rfl | exact absurd rfl (hnl _)
      refine .inr ⟨hk, q g1 (IteT X.K ad) (fun H => ∃ xs, SqT X.K H ad xs ∧ xs.length = us.length) (IteT X.K ad).yld H1 l1 r1 (by rw [numT_length]; exact ⟨fun i H hi ⟨ys, h1, h2⟩ => ⟨ys, ys[i]'(by omega), h1, by simp⟩, fun H ⟨ys, h1, h2⟩ => ⟨ys, h1, h2⟩, fun i H x H' _ _ y => y⟩) ?_ ?_⟩
      · intro H0' g' own' env' s'' σ' H' l sm r'
        obtain ⟨ys, h1, h2⟩ := later H0' g' own' env' s'' σ' H' l sm r'
        rw [ek] at h1
        exact ⟨ys, h1, h2.length⟩
      · rintro i x H0' g' own' env' s'' σ' H' H'' hi l sm r' ⟨T0, y, rfl, hT, rfl, hy⟩
        obtain ⟨ys, h1, h2⟩ := later H0' g' own' env' s'' σ' _ l sm r'
        rw [ek] at h1
        obtain ⟨t', h3, h4⟩ := h2.get' (hy ys h1)
        obtain ⟨g2, h5, h6, h7⟩ := r'.pair hT (.cons (.int (i : Nat)) (.cons h4 .nil))
        exact ⟨g2, _, numT_at 0 us i t' h3, h5, h6, by simpa using h7⟩)⟩
end
end Gh
set_option linter.all false
set_option maxRecDepth 100000
set_option maxHeartbeats 1000000
namespace Gh
open PySem PySem.Spec PyProof.Rows L2

/-! ### zip over lists and tuples in any mix -/
def ItK (k : Bool) (h : Heap) (it a : Addr) (i : Nat) : Prop := if k = true then h.IsListIter it a i else h.IsTupleIter it a i
def SeK (k : Bool) (h : Heap) (a : Addr) (items : Array Value) : Prop := if k = true then h.IsList a items else h.IsTuple a items
def itO (k : Bool) (a : Addr) : Obj := if k = true then { cls := .type "list_iterator", data := .fields #[.ref a, .int 0 0] } else { cls := .type "tuple_iterator", data := .fields #[.ref a, .int 0 0] }
theorem drawsK {prog : Program} {w : World} {A : Around} (hh : A.handled = none) (k : Bool) (it a : Addr) (hne : a ≠ it) (items : Array Value) :
    Draws prog w A it [it, a] items.size (fun i v => items[i]? = some v) (fun i h => ItK k h it a i ∧ SeK k h a items) := by
  cases k
  · exact Draws.tuple hh it a hne items
  · exact Draws.list hh it a hne items
theorem beginsK (k : Bool) (a : Addr) (items : Array Value) : Begins (.ref a) (itO k a) fun h => SeK k h a items := by
  cases k
  · exact begins_tuple a items
  · exact begins_list a items
theorem ItK.start {k : Bool} {h : Heap} {it a : Addr} (e : h.get? it = some (itO k a)) : ItK k h it a 0 := by
  cases k
  · exact ⟨_, e, rfl, rfl⟩
  · exact ⟨_, e, rfl, rfl⟩
theorem ItK.obj {k : Bool} {h : Heap} {it a : Addr} {i : Nat} (q : ItK k h it a i) : ∃ o, h.get? it = some o ∧ ∀ v, o.data ≠ .cell v := by
  cases k
  · obtain ⟨o, ho, hc, hd⟩ := (show h.IsTupleIter it a i from q)
    exact ⟨o, ho, fun v z => by rw [hd] at z; cases z⟩
  · obtain ⟨o, ho, hc, hd⟩ := (show h.IsListIter it a i from q)
    exact ⟨o, ho, fun v z => by rw [hd] at z; cases z⟩
theorem ItK.at {k : Bool} {h h' : Heap} {it a : Addr} {i : Nat} (q : ItK k h it a i) (s : ∀ o, h.get? it = some o → h'.get? it = some o) : ItK k h' it a i := by
  cases k
  · exact Heap.IsTupleIter.at (show h.IsTupleIter it a i from q) s
  · exact Heap.IsListIter.at (show h.IsListIter it a i from q) s
section
variable {X : Cx} {pins : List (Addr × Obj)} {σ : L2.St} {H : Hp} {s : Shared}
theorem sqK_of {k : Bool} {a : Addr} {xs : List V} (I : Inv X pins σ H s) (h : SqK X.K k H a xs) : ∃ its : List Value, Vals xs its ∧ SeK k s.heap a its.toArray ∧ a < s.heap.objs.size := by
  cases k
  · obtain ⟨its, r, p, _⟩ := I.tuple (show SqT X.K H a xs from h)
    exact ⟨its, r, (show s.heap.IsTuple a its.toArray from p), by obtain ⟨_, q, _⟩ := p; exact Heap.lt_size q⟩
  · obtain ⟨its, r, p, _⟩ := I.list (show SqL X.K H a xs from h)
    exact ⟨its, r, p.isList, p.lt⟩
theorem sqK_inj {k : Bool} {a : Addr} {xs ys : List V} (I : Inv X pins σ H s) (h : SqK X.K k H a xs) (h' : SqK X.K k H a ys) : xs = ys := by
  cases k
  · exact I.tuple_inj (show SqT X.K H a xs from h) h'
  · exact I.list_inj (show SqL X.K H a xs from h) h'
end
def Itz2 (K : PySem.W.Frag) (k1 k2 : Bool) (a b : Addr) : It :=
  ⟨fun i H => ∃ (xs ys : List V) (x y : V), SqK K k1 H a xs ∧ SqK K k2 H b ys ∧ xs[i]? = some x ∧ ys[i]? = some y,
    fun i H v H' => ∃ T x y, v = .ref T ∧ H T = none ∧ H' = upd H T (.tup [x, y]) ∧ (∀ xs, SqK K k1 H a xs → xs[i]? = some x) ∧ ∀ ys, SqK K k2 H b ys → ys[i]? = some y,
    fun i H => ∃ xs ys : List V, SqK K k1 H a xs ∧ SqK K k2 H b ys ∧ i ≤ xs.length ∧ i ≤ ys.length ∧ (i = xs.length ∨ i = ys.length)⟩
theorem sep2 (n a b : Addr) (la : a < n) (lb : b < n) : ZipSep2 (n + 4) (n + 2) (n + 3) n (n + 1) [n, a] [n + 1, b] := by
  have ha : ∀ k : Nat, ¬ (n + k = a) := fun k h => Nat.lt_irrefl n (Nat.lt_of_le_of_lt (by rw [← h]; exact Nat.le_add_right n k) la)
  have hb : ∀ k : Nat, ¬ (n + k = b) := fun k h => Nat.lt_irrefl n (Nat.lt_of_le_of_lt (by rw [← h]; exact Nat.le_add_right n k) lb)
  have ha0 : ¬ (n = a) := ha 0
  have hb0 : ¬ (n = b) := hb 0
  constructor <;> simp [ha, hb, ha0, hb0]
theorem turn_zip2 {P : Program} {w : World} {K : PySem.W.Frag} {elts : List Expr} {kk : Nat} {tpos : Pos} {k1 k2 : Bool} {a b z TI TO i1 i2 : Addr} (D : ZipSep2 z TI TO i1 i2 [i1, a] [i2, b]) (n1 : a ≠ i1) (n2 : b ≠ i2) :
    Turn P w K (.Tuple elts kk tpos) (Itz2 K k1 k2 a b) [z, TI, TO, i1, i2] z (fun i h => IsZip h z TI TO .none ∧ IsTupOf2 h TI (.ref i1) (.ref i2) ∧ (∃ x y, IsTupOf2 h TO x y) ∧ ItK k1 h i1 a i ∧ ItK k2 h i2 b i) where
  mem := by simp
  obj := fun i h st c hc => by
    obtain ⟨hz, hTI, ⟨x, y, hTO⟩, h1, h2⟩ := st
    have e' : c = z ∨ c = TI ∨ c = TO ∨ c = i1 ∨ c = i2 := by simpa using hc
    rcases e' with q | q | q | q | q
    · rw [q]; exact ⟨_, hz, fun v q => nomatch q⟩
    · rw [q]; exact ⟨_, hTI, fun v q => nomatch q⟩
    · rw [q]; exact ⟨_, hTO, fun v q => nomatch q⟩
    · rw [q]; exact h1.obj
    · rw [q]; exact h2.obj
  keep := fun i h h' st k => by
    obtain ⟨hz, hTI, ⟨x, y, hTO⟩, h1, h2⟩ := st
    exact ⟨k z (by simp) _ hz, k TI (by simp) _ hTI, ⟨x, y, k TO (by simp) _ hTO⟩, h1.at fun o q => k i1 (by simp) o q, h2.at fun o q => k i2 (by simp) o q⟩
  item := by
    intro X hP hw hK hc i pins s σ H E I hf st hg
    subst hP hw hK
    obtain ⟨hz, hTI, ⟨x0, y0, hTO⟩, h1, h2⟩ := st
    obtain ⟨xs, ys, x, y, hqx, hqy, hx, hy⟩ := hg
    obtain ⟨its, rv, p, _⟩ := sqK_of I hqx
    obtain ⟨its2, rv2, p2, _⟩ := sqK_of I hqy
    obtain ⟨u, hu, ru⟩ := rv.get hx
    obtain ⟨u2, hu2, ru2⟩ := rv2.get hy
    have hzl : z < s.heap.objs.size := Heap.lt_size hz
    have l1 : i < its.toArray.size := by simpa using (List.getElem?_eq_some_iff.mp hu).1
    have l2 : i < its2.toArray.size := by simpa using (List.getElem?_eq_some_iff.mp hu2).1
    refine wpAny_pyNext_zipD2_item D (drawsK (A := X.A.in1) (I.ok.hd hc) k1 i1 a n1 its.toArray) (drawsK (A := X.A.in1) (I.ok.hd hc) k2 i2 b n2 its2.toArray) hz hTI hTO ⟨h1, p⟩ ⟨h2, p2⟩ l1 l2 fun v1 v2 h' tk q1 q2 z' TO' st1 st2 hT hsz hk => ?_
    have ev1 : v1 = u := by
      have e2 : its.toArray[i]? = some u := by simpa using hu
      exact Option.some.inj (q1.symm.trans e2)
    have ev2 : v2 = u2 := by
      have e2 : its2.toArray[i]? = some u2 := by simpa using hu2
      exact Option.some.inj (q2.symm.trans e2)
    subst ev1 ev2
    refine ⟨_, rfl, wpAny_letOwnedTupleGo_zip (s := { s with heap := h', toks := tk }) z' fun h'' z'' sb => ?_⟩
    have hT2 : h''.get? s.heap.objs.size = some { cls := .type "tuple", data := .seq #[v1, v2] } := (sb.2 _ (Nat.ne_of_gt hzl)).trans hT
    have new : ObjOk X.prog X.w (upd H s.heap.objs.size (.tup [x, y])) h'' s.heap.objs.size (.tup [x, y]) :=
      ⟨by show 2 ≤ sizeLine; decide, [v1, v2], .cons ru (.cons ru2 .nil), ⟨_, hT2, rfl, _, rfl⟩⟩
    have I1 : Inv X pins σ (upd H s.heap.objs.size (.tup [x, y])) { s with heap := h'', toks := tk } :=
      I.turnedNew (ch := [z, TI, TO, i1, i2]) (fun c o hb q => (sb.2 c (fun q' => hb (by simp [q']))).trans (hk c o (fun q' => hb (by simp [q'])) (fun q' => hb (by simp [q'])) (fun q' => hb (by simp [q'])) (fun q' => hb (by simp [q'])) q)) hf (Nat.le_refl _) new
    refine ⟨.ref s.heap.objs.size, _, I1, rfl, ⟨_, x, y, rfl, I.hok.fresh (Nat.le_refl _), rfl, fun l hl => by rw [sqK_inj I hl hqx]; exact hx, fun l hl => by rw [sqK_inj I hl hqy]; exact hy⟩, ⟨z'', ?_, ⟨v1, v2, ?_⟩, ?_, ?_⟩, fun c hcm => ?_⟩
    · exact (sb.2 _ D.TIz).trans (hk _ _ D.TIz D.TITO D.TIi1 D.TIi2 hTI)
    · exact (sb.2 _ D.TOz).trans TO'
    · exact st1.1.at fun o q => (sb.2 _ (Ne.symm D.zi1)).trans q
    · exact st2.1.at fun o q => (sb.2 _ (Ne.symm D.zi2)).trans q
    · have hlt : c < s.heap.objs.size := by
        have e' : c = z ∨ c = TI ∨ c = TO ∨ c = i1 ∨ c = i2 := by simpa using hcm
        rcases e' with q | q | q | q | q
        · rw [q]; exact hzl
        · rw [q]; exact Heap.lt_size hTI
        · rw [q]; exact Heap.lt_size hTO
        · rw [q]; obtain ⟨_, e1, _⟩ := h1.obj; exact Heap.lt_size e1
        · rw [q]; obtain ⟨_, e2, _⟩ := h2.obj; exact Heap.lt_size e2
      rw [upd_ne (Nat.ne_of_lt hlt)]
      exact (hf c hcm).1
  done := by
    intro X hP hw hK hc i pins s σ H E I hf st hg
    subst hP hw hK
    obtain ⟨hz, hTI, ⟨x0, y0, hTO⟩, h1, h2⟩ := st
    obtain ⟨xs, ys, hqx, hqy, le1, le2, hend⟩ := hg
    obtain ⟨its, rv, p, _⟩ := sqK_of I hqx
    obtain ⟨its2, rv2, p2, _⟩ := sqK_of I hqy
    have l1 := rv.length
    have l2 := rv2.length
    exact wpAny_pyNext_zipD2_end D (drawsK (A := X.A.in1) (I.ok.hd hc) k1 i1 a n1 its.toArray) (drawsK (A := X.A.in1) (I.ok.hd hc) k2 i2 b n2 its2.toArray) hz hTI hTO ⟨h1, p⟩ ⟨h2, p2⟩ (by simp; omega) (by simp; omega) (by simp; omega)
      fun h' tk hk => ⟨rfl, I.turnedL (t' := tk) (ch := [z, TI, TO, i1, i2]) (fun c o hb q => hk c o (fun q' => hb (by simp [q'])) (fun q' => hb (by simp [q'])) (fun q' => hb (by simp [q'])) (fun q' => hb (by simp [q'])) q) hf⟩
  self := fun A i s Q E st h => wpAny_pyIter_zip st.1 h
def iZip2 (K : PySem.W.Frag) (ta : TA) : TI := fun σ H R => ta σ H fun vs H1 => ∃ a b k1 k2 xs ys, vs = [.ref a, .ref b] ∧ SqK K k1 H1 a xs ∧ SqK K k2 H1 b ys ∧ R (Itz2 K k1 k2 a b) H1
section
variable {X : Cx} {Φ : String → List T → Src → Option (T × Src)} {x y z : Expr} {a b c : E} {pos p : Pos} {m : Bool} {tg : Expr}
theorem pi_zip2 {ta : TA} {tpos : Pos} {elts : List Expr} {kk : Nat} (hg : Gl X "zip") (hm : X.mg "zip" = none) (ha : PA X [x, y] ta)
    (hs : starEach [x, y] X.env = (false, eval x X.env) :: starEach [y] X.env) (hpl : (backTo pos (starEach [y] X.env)).any (·.1) = false) :
    PI X (.Tuple elts kk tpos) (.Call (.Name "zip" p) [x, y] [] pos) (iZip2 X.K ta) := by
  refine ⟨fun pins s σ H R I h => ?_⟩
  refine Call_ (ld_blt I hg hm PyProof.Rows.boot_zip (PyProof.Rows.callWith_type1 (thn (ha.run pos pins s σ H _ I h) fun us s1 ⟨vs, H1, I1, r1, q1⟩ => ?_) hs hpl))
  obtain ⟨a, b, k1, k2, xs, ys, ex, hqx, hqy, q⟩ := q1
  subst ex
  cases r1 with
  | cons r rr =>
    cases rr with
    | cons r' rr =>
      cases rr
      cases r
      cases r'
      obtain ⟨its, rv, p1, la⟩ := sqK_of I1 hqx
      obtain ⟨its2, rv2, p2, lb⟩ := sqK_of I1 hqy
      have fresh5 : ∀ c, c ∈ [s1.heap.objs.size + 4, s1.heap.objs.size + 2, s1.heap.objs.size + 3, s1.heap.objs.size, s1.heap.objs.size + 1] → FpOk X pins H1 c := fun c hcm => by
        have hle : s1.heap.objs.size ≤ c := by
          have e' : c = s1.heap.objs.size + 4 ∨ c = s1.heap.objs.size + 2 ∨ c = s1.heap.objs.size + 3 ∨ c = s1.heap.objs.size ∨ c = s1.heap.objs.size + 1 := by simpa using hcm
          omega
        exact I1.fpOk hle (I1.hok.fresh hle)
      refine zip_begins2 (beginsK k1 a its.toArray) (beginsK k2 b its2.toArray) p1 p2 fun h' hz hTI hTO e1 e2 hsz hk => wpAny_pyIter_zip hz ?_
      have I2 : Inv X pins σ H1 { s1 with heap := h' } := I1.kept (t' := s1.toks) hk
      exact ⟨s1.heap.objs.size + 4, [s1.heap.objs.size + 4, s1.heap.objs.size + 2, s1.heap.objs.size + 3, s1.heap.objs.size, s1.heap.objs.size + 1], _, _, H1, rfl, I2, turn_zip2 (sep2 _ _ _ la lb) (Nat.ne_of_lt la) (Nat.ne_of_lt (Nat.lt_succ_of_lt lb)), ⟨hz, hTI, ⟨_, _, hTO⟩, .start e1, .start e2⟩, fresh5, q⟩
theorem zipC_length : ∀ (xs : List T) (zs : List (List T)), (zipT.zipC xs (zs.map .tup)).length = min xs.length zs.length
  | [], _ => by simp [zipT.zipC]
  | _ :: _, [] => by simp [zipT.zipC]
  | x :: xs, z :: zs => by simp [zipT.zipC, zipC_length xs zs]
theorem zipC_at : ∀ (xs : List T) (zs : List (List T)) (i : Nat) (x : T) (z : List T), xs[i]? = some x → zs[i]? = some z → (zipT.zipC xs (zs.map .tup))[i]? = some (.tup (x :: z))
  | [], _, i, x, z, h, _ => by simp at h
  | _ :: _, [], i, x, z, _, h => by simp at h
  | x' :: xs, z' :: zs, 0, x, z, h, k => by simp at h k; subst h k; simp [zipT.zipC]
  | x' :: xs, z' :: zs, i + 1, x, z, h, k => by
    simp only [List.map_cons, zipT.zipC, List.getElem?_cons_succ]
    exact zipC_at xs zs i x z (by simpa using h) (by simpa using k)
theorem zip2_eq (xs ys : List T) : zipT [xs, ys] = zipT.zipC xs ((ys.map fun y => [y]).map .tup) := by simp only [zipT, List.map_map]; rfl
theorem zip2_length (xs ys : List T) : (zipT [xs, ys]).length = min xs.length ys.length := by rw [zip2_eq, zipC_length]; simp
theorem zip2_at {xs ys : List T} {i : Nat} {x y : T} (h1 : xs[i]? = some x) (h2 : ys[i]? = some y) : (zipT [xs, ys])[i]? = some (.tup [x, y]) := by
  rw [zip2_eq]
  exact zipC_at xs _ i x [y] h1 (by simp [h2])
theorem i_zip2 {kk : Nat} {tpos : Pos} {elts : List Expr} (hg : Gl X "zip") (hm : X.mg "zip" = none) (ha : PE X x (tO X.K Φ a m)) (hb : PE X y (tO X.K Φ b m)) (hs : isStar x = false) (hs2 : isStar y = false) :
    PI X (.Tuple elts kk tpos) (.Call (.Name "zip" p) [x, y] [] pos) (tI X.K Φ (.zip [a, b]) m) := ⟨fun pins s σ H Rr I w =>
  (pi_zip2 hg hm (pa_cons ha (pa_cons hb pa_nil (starEach_cons hs2)) (starEach_cons hs)) (starEach_cons hs) (any_back (by simp [hs2]))).run pins s σ H Rr I (by
  obtain ⟨H0, g, own, env, sr, ts, s', r, e, q⟩ := w
  simp only [evE, evTs] at e
  cases e1 : evE Φ a m env sr with
  | none => rw [e1] at e; cases e
  | some pr =>
    obtain ⟨t, s1⟩ := pr
    rw [e1] at e
    simp only at e
    cases e2 : evE Φ b m env s1 with
    | none => rw [e2] at e; cases e
    | some pr =>
      obtain ⟨t2, s2⟩ := pr
      rw [e2] at e
      simp only [seqsOf] at e
      cases n1 : seqN t with
      | none => rw [n1] at e; cases e
      | some us =>
      cases n2 : seqN t2 with
      | none => rw [n1, n2] at e; cases e
      | some ws =>
      rw [n1, n2] at e
      simp only [Option.map_some, Option.bind_some, seqS, seqOf, Option.some.injEq, Prod.mk.injEq] at e
      obtain ⟨rfl, rfl⟩ := e
      have m1 : ∀ i ∈ fvI a, i ∈ fvI (E.zip [a, b]) := fun i hi => by simp [fvI, fvIs, hi]
      have m2 : ∀ i ∈ fvI b, i ∈ fvI (E.zip [a, b]) := fun i hi => by simp [fvI, fvIs, hi]
      refine ⟨H0, g, own, env, sr, t, _, r, e1, fun g1 v H1 l1 r1 p1 => ?_⟩
      refine ⟨H0, g1, own, env, s1, t2, _, r1, e2, fun g2 u H2 l2 r2 p2 => ?_⟩
      have p1 := p1.mono l2
      obtain ⟨ad, xs, rfl, -, -⟩ := (seqV_of r2 (opd_val p1 (Le.refl _) Same.refl r2) n1).at
      obtain ⟨bd, ys, rfl, -, -⟩ := (seqV_of r2 (opd_val p2 (Le.refl _) Same.refl r2) n2).at
      have later : ∀ H0' g' own' env' s'' σ' H', Le g2 g' → Same m (fvI (.zip [a, b])) own env σ own' env' σ' → R X.K H0' g' own' env' s'' σ' H' → (∃ xs, SqK X.K (isLst t) H' ad xs ∧ Reps X.K g' xs us) ∧ ∃ ys, SqK X.K (isLst t2) H' bd ys ∧ Reps X.K g' ys ws :=
        fun H0' g' own' env' s'' σ' H' l sm r' => ⟨(seqV_of r' (opd_val p1 l (sm.sub m1) r') n1).sq, (seqV_of r' (opd_val p2 l (sm.sub m2) r') n2).sq⟩
      obtain ⟨⟨xs, hx, hxr⟩, ys, hy, hyr⟩ := later _ _ _ _ _ _ _ (Le.refl _) Same.refl r2
      refine ⟨ad, bd, isLst t, isLst t2, xs, ys, rfl, hx, hy, ?_⟩
      refine q g2 (Itz2 X.K (isLst t) (isLst t2) ad bd) (fun H => ∃ xs ys, SqK X.K (isLst t) H ad xs ∧ SqK X.K (isLst t2) H bd ys ∧ xs.length = us.length ∧ ys.length = ws.length) (Itz2 X.K (isLst t) (isLst t2) ad bd).yld H2 (l1.trans l2) r2 ?_ ?_ ?_
      · rw [zip2_length]
        refine ⟨fun i H hi ⟨xs, ys, h1, h2, h3, h4⟩ => ⟨xs, ys, xs[i]'(by omega), ys[i]'(by omega), h1, h2, by simp, by simp⟩, fun H ⟨xs, ys, h1, h2, h3, h4⟩ => ⟨xs, ys, h1, h2, by omega, by omega, by omega⟩, fun i H x H' _ _ y => y⟩
      · intro H0' g' own' env' s'' σ' H' l sm r'
        obtain ⟨⟨xs, hx, hxr⟩, ys, hy, hyr⟩ := later H0' g' own' env' s'' σ' H' l sm r'
        exact ⟨xs, ys, hx, hy, hxr.length, hyr.length⟩
      · rintro i v H0' g' own' env' s'' σ' H' H'' hi l sm r' ⟨T0, x1, y1, rfl, hT, rfl, hx1, hy1⟩
        obtain ⟨⟨xs, hx, hxr⟩, ys, hy, hyr⟩ := later H0' g' own' env' s'' σ' _ l sm r'
        obtain ⟨t1', h3, h4⟩ := hxr.get' (hx1 xs hx)
        obtain ⟨t2', h5, h6⟩ := hyr.get' (hy1 ys hy)
        obtain ⟨g3, h7, h8, h9⟩ := r'.pair hT (.cons h4 (.cons h6 .nil))
        exact ⟨g3, _, zip2_at h3 h5, h7, h8, h9⟩)⟩
end
end Gh
set_option linter.all false
set_option maxRecDepth 100000
set_option maxHeartbeats 1000000
namespace Gh
open PySem PySem.Spec PyProof.Rows L2

/-! ### what is known of the place -/
structure Ctx where
  N : List Str
  sc : Scope
  top : Bool
  fs : List (Str × NameKind)
  us : List (Str × String × Nat)
def Ctx.blk (C : Ctx) (scope : Scope) : Ctx := { C with sc := relS scope C.sc, top := false, fs := scope.names }
def blN : List Str := ["len", "any", "all", "tuple", "list", "sorted", "sum", "max", "min", "abs", "int", "dict", "set", "isinstance", "range", "enumerate", "zip", "str", "bool"]
structure Good (Φ : String → List T → Src → Option (T × Src)) (C : Ctx) (k : Nat) (X : Cx) : Prop where
  N : X.N = C.N
  nd : X.N.Nodup
  sc : X.env.scope = C.sc
  fn : ∀ x, (C.top || (C.fs.lookup x == some .cell)) = true → X.fn x = true
  calm : X.calm = true
  xe : X.xe = fun _ _ => False
  room : Room k X.A
  bl : ∀ n ∈ blN, X.mg n = none
  us : ∀ q ∈ C.us, User X k (Φ q.2.1) q.1 q.2.2
theorem Good.blk {Φ : String → List T → Src → Option (T × Src)} {C : Ctx} {k : Nat} {X : Cx} (G : Good Φ C k X) (scope : Scope) (s : Shared) (H : Hp) (Ca : Addr) (cl : List (Str × Addr)) (fp : List Addr) : Good Φ (C.blk scope) k (X.blk s H scope (compEnvC scope cl Ca X.env) fp) where
  N := G.N
  nd := G.nd
  sc := by
    show (compEnvC scope cl Ca X.env).scope = relS scope C.sc
    rw [← G.sc]; rfl
  fn := fun x h => h
  calm := G.calm
  xe := rfl
  room := G.room
  bl := G.bl
  us := fun q hq => ⟨(G.us q hq).ex⟩

/-! ### targets -/
section
variable {K : PySem.W.Frag} {H0 : Fm} {g : Gs} {own : Own} {env : List Slot} {s : Src} {σ : L2.St} {H : Hp}
theorem R.setS (r : R K H0 g own env s σ H) {i : Nat} {v : V} {x : Slot} (h : SlotR K g own H i (some v) x) (hn : ∀ t, x ≠ .lk t) : R K H0 g own (env.set i x) s (σ.set i (some v)) H := by
  refine ⟨by simp [r.len], r.sub, r.keep, r.prot, r.prL, r.src, r.locS, r.own_, fun j w y e1 e2 => ?_, fun j t e => ?_⟩
  rotate_left
  · rw [List.getElem?_set] at e
    by_cases hj : i = j
    · subst hj
      rw [if_pos rfl] at e
      split at e
      · exact absurd (Option.some.inj e) (hn t)
      · cases e
    · rw [if_neg hj] at e
      obtain ⟨a, u, kvs, ts, h1, h2, h3⟩ := r.lkd j t e
      exact ⟨a, u, kvs, ts, h1, by rw [List.getElem?_set, if_neg hj]; exact h2, h3⟩
  rw [List.getElem?_set] at e1 e2
  by_cases hj : i = j
  · subst hj
    rw [if_pos rfl] at e1 e2
    split at e1
    · split at e2
      · cases e1; cases e2; exact h
      · cases e2
    · cases e1
  · rw [if_neg hj] at e1 e2
    exact r.slot j w y e1 e2
theorem R.setR (r : R K H0 g own env s σ H) {i : Nat} {v : V} {t : T} (h : Rep K g v t) : R K H0 g own (env.set i (.sh t)) s (σ.set i (some v)) H := r.setS (.sh h) (fun _ z => by cases z)
end
theorem wipe_get {σ : L2.St} : ∀ {vs : List Nat} {i : Nat}, (L2.wipe σ vs)[i]? = if i < σ.length then (if i ∈ vs then some none else σ[i]?) else none
  | [], i => by
    by_cases h : i < σ.length
    · simp [L2.wipe, h]
    · simp [L2.wipe, h]
  | v :: vs, i => by
    unfold L2.wipe
    rw [List.getElem?_set, wipe_get, L2.wipe_length]
    by_cases h : i < σ.length
    · by_cases hv : v = i
      · subst hv; simp [h]
      · have hv' : ¬ i = v := fun z => hv z.symm
        simp [h, hv, hv']
    · by_cases hv : v = i
      · subst hv; simp [h]
      · simp [h, hv]
theorem wipe_set {σ : L2.St} {vs : List Nat} {i : Nat} {o : Option V} (h : i ∈ vs) : L2.wipe (σ.set i o) vs = L2.wipe σ vs := by
  apply List.ext_getElem?
  intro j
  rw [wipe_get, wipe_get, List.length_set]
  by_cases hj : j < σ.length
  · by_cases hv : j ∈ vs
    · simp [hj, hv]
    · have : i ≠ j := fun z => hv (z ▸ h)
      simp [hj, hv, List.getElem?_set, this]
  · simp [hj]
def gT (K : PySem.W.Frag) (tg : Tg) : TG := fun v σ H Q => ∃ H0 g own env s t env', R K H0 g own env s σ H ∧ Rep K g v t ∧ asgTg tg t env = some env' ∧
  ∀ σ', R K H0 g own env' s σ' H → (∀ vs, (∀ i ∈ tgV tg, i ∈ vs) → L2.wipe σ' vs = L2.wipe σ vs) → Q σ' H
def gTs (K : PySem.W.Frag) (tgs : List Tg) : TGs := fun ws σ H Q => ∃ H0 g own env s ts env', R K H0 g own env s σ H ∧ Reps K g ws ts ∧ asgTgs tgs ts env = some env' ∧
  ∀ σ', R K H0 g own env' s σ' H → (∀ vs, (∀ i ∈ tgVs tgs, i ∈ vs) → L2.wipe σ' vs = L2.wipe σ vs) → Q σ' H
theorem _root_.L2.PG.imp {X : Cx} {x : Expr} {t t' : TG} (h : PG X x t) (w : ∀ v σ H Q, t' v σ H Q → t v σ H Q) : PG X x t' := ⟨fun pins s σ H v u Q I r q => h.run pins s σ H v u Q I r (w _ _ _ _ q)⟩
theorem _root_.L2.PGs.imp {X : Cx} {x : List Expr} {t t' : TGs} (h : PGs X x t) (w : ∀ v σ H Q, t' v σ H Q → t v σ H Q) : PGs X x t' := ⟨fun pins s σ H v u Q I r q => h.run pins s σ H v u Q I r (w _ _ _ _ q)⟩
def localB (C : Ctx) (x : Str) : Bool := decide (C.sc.names.lookup x = some .local)
/-- the name may be stored -/
def stoB (C : Ctx) (i : Nat) (x : Str) : Bool := decide (C.N[i]? = some x) && (localB C x || (decide (C.sc.names.lookup x = some .cell) && (C.top || (C.fs.lookup x == some .cell))))
mutual
def okTg (C : Ctx) : Tg → Expr → Bool
  | .var i, .Name x _ => stoB C i x
  | .tup ts, .Tuple es _ _ => okTgs C ts es
  | _, _ => false
def okTgs (C : Ctx) : List Tg → List Expr → Bool
  | [], [] => true
  | t :: ts, e :: es => !isStar e && okTg C t e && okTgs C ts es
  | _, _ => false
end
section
variable {Φ : String → List T → Src → Option (T × Src)} {C : Ctx} {k : Nat} {X : Cx}
theorem assignEach_cons {e : Expr} {es : List Expr} {env : Env} (h : isStar e = false) : assignEach (e :: es) env = (false, assign e env) :: assignEach es env := by
  cases e <;> first | rfl | cases h
theorem sto_ok (G : Good Φ C k X) {i : Nat} {x : Str} (h : stoB C i x = true) : X.N[i]? = some x ∧ Loc X.env.scope x ∧ (X.fn x = true ∨ X.env.scope.names.lookup x = some .local) := by
  unfold stoB localB at h
  simp only [Bool.and_eq_true, Bool.or_eq_true, decide_eq_true_eq] at h
  obtain ⟨h1, h2⟩ := h
  rw [G.N, G.sc]
  refine ⟨h1, ?_⟩
  rcases h2 with h2 | ⟨h2, h3⟩
  · exact ⟨.inl h2, .inr h2⟩
  · refine ⟨.inr h2, .inl ?_⟩
    exact G.fn x (by simpa using h3)
mutual
theorem s_tg (G : Good Φ C k X) : ∀ (tg : Tg) (x : Expr), okTg C tg x = true → PG X x (gT X.K tg)
  | .var i, x, h => by
    cases x <;> first | (cases h; done) | skip
    rename_i n pos
    have h' : stoB C i n = true := h
    obtain ⟨h1, h2, h3⟩ := sto_ok G h'
    refine (pg_name G.nd h1 h2 h3).imp fun v σ H Q ⟨H0, g, own, env, s, t, env', r, hr, ha, q⟩ => ?_
    simp only [asgTg] at ha
    split at ha
    · cases ha
      exact q _ (r.setR hr) fun vs hv => wipe_set (hv i (by simp [tgV]))
    · cases ha
  | .tup ts, x, h => by
    cases x <;> first | (cases h; done) | skip
    rename_i es kk pos
    have h' : okTgs C ts es = true := h
    have hs := s_tgs G ts es h'
    have hl : ∀ (ts : List Tg) (es : List Expr), okTgs C ts es = true → (assignEach es X.env).length = ts.length ∧ (assignEach es X.env).findIdx? (·.1) = none := by
      intro ts
      induction ts with
      | nil => intro es h; cases es with
        | nil => exact ⟨rfl, rfl⟩
        | cons a b => cases h
      | cons t ts ih => intro es h; cases es with
        | nil => cases h
        | cons a b =>
          have h' : (!isStar a && okTg C t a && okTgs C ts b) = true := h
          simp only [Bool.and_eq_true, Bool.not_eq_true'] at h'
          obtain ⟨i1, i2⟩ := ih b h'.2
          rw [assignEach_cons h'.1.1]
          exact ⟨by simp [i1], by simp [List.findIdx?_cons, i2]⟩
    obtain ⟨l1, l2⟩ := hl ts es h'
    refine (pg_tup (n := ts.length) G.calm hs l1 l2).imp fun v σ H Q ⟨H0, g, own, env, s, t, env', r, hr, ha, q⟩ => ?_
    cases t <;> simp only [asgTg, reduceCtorEq] at ha
    rename_i xs
    cases hr with
    | tup h1 h2 =>
      refine ⟨_, _, rfl, r.st h1, ?_, H0, g, own, env, s, xs, env', r, h2, ha, fun σ' r' w => q σ' r' fun vs hv => w vs hv⟩
      rw [h2.length]
      have hl2 : ∀ (ts : List Tg) (xs : List T) (env env' : List Slot), asgTgs ts xs env = some env' → xs.length = ts.length := by
        intro ts
        induction ts with
        | nil => intro xs env env' h; cases xs with
          | nil => rfl
          | cons a b => simp [asgTgs] at h
        | cons t ts ih => intro xs env env' h; cases xs with
          | nil => simp [asgTgs] at h
          | cons a b =>
            simp only [asgTgs] at h
            split at h
            · cases h
            · simp [ih b _ _ h]
      exact hl2 ts xs env env' ha
theorem s_tgs (G : Good Φ C k X) : ∀ (ts : List Tg) (es : List Expr), okTgs C ts es = true → PGs X es (gTs X.K ts)
  | [], es, h => by
    cases es with
    | cons a b => cases h
    | nil =>
      refine (pgs_nil (X := X)).imp fun v σ H Q ⟨H0, g, own, env, s, t, env', r, hr, ha, q⟩ => ?_
      cases t with
      | cons a b => simp [asgTgs] at ha
      | nil =>
        cases hr
        simp only [asgTgs] at ha
        cases ha
        exact ⟨rfl, q σ r fun _ _ => rfl⟩
  | t :: ts, es, h => by
    cases es with
    | nil => cases h
    | cons e es =>
      have h' : (!isStar e && okTg C t e && okTgs C ts es) = true := h
      simp only [Bool.and_eq_true, Bool.not_eq_true'] at h'
      refine (pgs_cons (s_tg G t e h'.1.2) (s_tgs G ts es h'.2) (by rw [assignEach_cons h'.1.1]; rfl)).imp fun v σ H Q ⟨H0, g, own, env, s, tt, env', r, hr, ha, q⟩ => ?_
      cases tt with
      | nil => simp [asgTgs] at ha
      | cons x xs =>
        simp only [asgTgs] at ha
        cases hr with
        | cons r1 r2 =>
          split at ha
          · cases ha
          · rename_i env1 e1
            refine ⟨_, _, rfl, H0, g, own, env, s, x, env1, r, r1, e1, fun σ1 rr1 w1 => ?_⟩
            refine ⟨H0, g, own, env1, s, xs, env', rr1, r2, ha, fun σ2 rr2 w2 => q σ2 rr2 fun vs hv => ?_⟩
            rw [w2 vs fun i hi => hv i (by simp [tgVs, hi]), w1 vs fun i hi => hv i (by simp [tgVs, hi])]
end
end

/-! ### the block's own names -/
theorem wipeE_length (env : List Slot) : ∀ vs : List Nat, (Gh.wipe env vs).length = env.length
  | [] => rfl
  | v :: vs => by unfold Gh.wipe; rw [List.length_set, wipeE_length env vs]
theorem wipeE_get {env : List Slot} : ∀ {vs : List Nat} {i : Nat}, (Gh.wipe env vs)[i]? = if i < env.length then (if i ∈ vs then some .un else env[i]?) else none
  | [], i => by
    by_cases h : i < env.length
    · simp [Gh.wipe, h]
    · simp [Gh.wipe, h]
  | v :: vs, i => by
    unfold Gh.wipe
    rw [List.getElem?_set, wipeE_get, wipeE_length]
    by_cases h : i < env.length
    · by_cases hv : v = i
      · subst hv; simp [h]
      · have hv' : ¬ i = v := fun z => hv z.symm
        simp [h, hv, hv']
    · by_cases hv : v = i
      · subst hv; simp [h]
      · simp [h, hv]
theorem wipeE_set {env : List Slot} {vs : List Nat} {i : Nat} {o : Slot} (h : i ∈ vs) : Gh.wipe (env.set i o) vs = Gh.wipe env vs := by
  apply List.ext_getElem?
  intro j
  rw [wipeE_get, wipeE_get, List.length_set]
  by_cases hj : j < env.length
  · by_cases hv : j ∈ vs
    · simp [hj, hv]
    · have : i ≠ j := fun z => hv (z ▸ h)
      simp [hj, hv, List.getElem?_set, this]
  · simp [hj]
theorem wipeE_sub {env : List Slot} {vs ws : List Nat} (h : ∀ i ∈ ws, i ∈ vs) : Gh.wipe (Gh.wipe env ws) vs = Gh.wipe env vs := by
  apply List.ext_getElem?
  intro j
  rw [wipeE_get, wipeE_get, wipeE_get, wipeE_length]
  by_cases hj : j < env.length
  · by_cases hv : j ∈ vs
    · simp [hj, hv]
    · have : ¬ j ∈ ws := fun z => hv (h j z)
      simp [hj, hv, this]
  · simp [hj]
theorem wipe_sub {σ : L2.St} {vs ws : List Nat} (h : ∀ i ∈ ws, i ∈ vs) : L2.wipe (L2.wipe σ ws) vs = L2.wipe σ vs := by
  apply List.ext_getElem?
  intro j
  rw [wipe_get, wipe_get, wipe_get, L2.wipe_length]
  by_cases hj : j < σ.length
  · by_cases hv : j ∈ vs
    · simp [hj, hv]
    · have : ¬ j ∈ ws := fun z => hv (h j z)
      simp [hj, hv, this]
  · simp [hj]
mutual
theorem asgTg_wipe {vs : List Nat} : ∀ {tg : Tg} {t : T} {env env1 : List Slot}, asgTg tg t env = some env1 → (∀ i ∈ tgV tg, i ∈ vs) → Gh.wipe env1 vs = Gh.wipe env vs
  | .var i, t, env, env1, h, hv => by
    simp only [asgTg] at h
    split at h
    · cases h; exact wipeE_set (hv i (by simp [tgV]))
    · cases h
  | .tup ts, t, env, env1, h, hv => by
    cases t <;> simp only [asgTg, reduceCtorEq] at h
    exact asgTgs_wipe h fun i hi => hv i hi
theorem asgTgs_wipe {vs : List Nat} : ∀ {ts : List Tg} {xs : List T} {env env1 : List Slot}, asgTgs ts xs env = some env1 → (∀ i ∈ tgVs ts, i ∈ vs) → Gh.wipe env1 vs = Gh.wipe env vs
  | [], xs, env, env1, h, hv => by
    cases xs <;> simp only [asgTgs, reduceCtorEq, Option.some.injEq] at h
    rw [h]
  | t :: ts, xs, env, env1, h, hv => by
    cases xs with
    | nil => simp [asgTgs] at h
    | cons x xs =>
      simp only [asgTgs] at h
      split at h
      · cases h
      · rename_i e1 h1
        rw [asgTgs_wipe h fun i hi => hv i (by simp [tgVs, hi]), asgTg_wipe h1 fun i hi => hv i (by simp [tgVs, hi])]
end
section
variable {K : PySem.W.Frag} {H0 : Fm} {g : Gs} {own : Own} {env : List Slot} {s : Src} {σ : L2.St} {H : Hp}
theorem R.wipe (r : R K H0 g own env s σ H) (vs : List Nat) : R K H0 g own (Gh.wipe env vs) s (L2.wipe σ vs) H := by
  refine ⟨by rw [L2.wipe_length, wipeE_length, r.len], r.sub, r.keep, r.prot, r.prL, r.src, r.locS, r.own_, fun i v x e1 e2 => ?_, fun i t e => ?_⟩
  rotate_left
  · rw [wipeE_get] at e
    split at e
    · split at e
      · cases e
      · rename_i hl hv
        obtain ⟨a, u, kvs, ts, h1, h2, h3⟩ := r.lkd i t e
        exact ⟨a, u, kvs, ts, h1, by rw [wipe_get, if_pos (by rw [r.len]; exact hl), if_neg hv]; exact h2, h3⟩
    · cases e
  rw [wipe_get] at e1
  rw [wipeE_get] at e2
  split at e1
  · split at e2
    · split at e1
      · rename_i h; rw [if_pos h] at e2; cases e2; exact .un
      · rename_i h; rw [if_neg h] at e2; exact r.slot i v x e1 e2
    · cases e2
  · cases e1
theorem R.unwipe (r0 : R K H0 g own env s σ H) {g' : Gs} {s' : Src} {H' : Hp} {vs : List Nat} (l : Le g g') (hf : ownFree env vs = true) (r : R K H0 g' own (Gh.wipe env vs) s' (L2.wipe σ vs) H') : R K H0 g' own env s' σ H' := by
  refine ⟨r0.len, r.sub, r.keep, r.prot, r.prL, r.src, r.locS, r.own_, fun i v x e1 e2 => ?_, fun i t e => ?_⟩
  rotate_left
  · have hl2 : i < env.length := (List.getElem?_eq_some_iff.mp e).1
    have hv : i ∉ vs := fun h => by
      have hq := List.all_eq_true.mp hf i h
      rw [e] at hq
      cases hq
    obtain ⟨a, u, kvs, ts, h1, h2, h3⟩ := r.lkd i t (by rw [wipeE_get, if_pos hl2, if_neg hv]; exact e)
    rw [wipe_get, if_pos (by rw [r0.len]; exact hl2), if_neg hv] at h2
    exact ⟨a, u, kvs, ts, h1, h2, h3⟩
  have hl : i < σ.length := (List.getElem?_eq_some_iff.mp e1).1
  have hl2 : i < env.length := (List.getElem?_eq_some_iff.mp e2).1
  by_cases h : i ∈ vs
  · have q := r0.slot i v x e1 e2
    have hq := List.all_eq_true.mp hf i h
    rw [e2] at hq
    cases q with
    | un => exact .un
    | sh z => exact .sh (z.mono l)
    | _ => cases hq
  · refine r.slot i v x ?_ ?_
    · rw [wipe_get, if_pos hl, if_neg h]; exact e1
    · rw [wipeE_get, if_pos hl2, if_neg h]; exact e2
theorem Same.wipe {m : Bool} {fv vs : List Nat} (r : R K H0 g own env s σ H) (h : ∀ i ∈ fv, i ∉ vs) : Same m fv own env σ own (Gh.wipe env vs) (L2.wipe σ vs) := fun _ => ⟨rfl, fun i hi => by
  rw [wipe_get, wipeE_get]
  have hn := h i hi
  by_cases hl : i < σ.length
  · have hl2 : i < env.length := by rw [← r.len]; exact hl
    simp [hl, hl2, hn]
  · have hl2 : ¬ i < env.length := by rw [← r.len]; exact hl
    simp [hl, hl2]⟩
end
theorem compL_len {elt c : List Slot → Src → Option (T × Src)} {tg : Tg} {env : List Slot} : ∀ {xs : List T} {s s' : Src} {ys : List T}, compL elt c tg env xs s = some (ys, s') → ys.length ≤ xs.length
  | [], s, s', ys, h => by simp only [compL] at h; cases h; exact Nat.le_refl _
  | x :: xs, s, s', ys, h => by
    simp only [compL] at h
    split at h
    · cases h
    · split at h
      · split at h
        · cases h
        · split at h
          · cases h
          · rename_i h1
            cases h
            have := compL_len h1
            simp; omega
      · have := compL_len h
        simp; omega
      · cases h
/-- one more item of a comprehension -/
theorem R.item {K : PySem.W.Frag} {H0 : Fm} {g : Gs} {own : Own} {env : List Slot} {s : Src} {σ : L2.St} {H : Hp} {D : Addr} {o o' : HO} (r : R K (H0.hold D o) g own env s σ H) (h0 : H0.H0 D = none) (hP : ¬ H0.P D) (op : own D = none) (nt : noTup o') (nf : ∀ u w, o ≠ .frz u w := by intro _ _ z; cases z) : R K (H0.hold D o') g own env s σ (upd H D o') :=
  have z := r.isHeld
  ((r.unhold h0 hP nf).over z.2.1 op h0 z.2.2).hold h0 upd_same op z.2.1 z.2.2 nt
section
variable {Φ : String → List T → Src → Option (T × Src)} {X : Cx} {x y z : Expr} {a b c elt it : E} {pos p : Pos} {m : Bool} {tg : Tg} {tgx itx ex : Expr} {ifs : List Expr} {own : List (Str × Nat)} {scope : Scope}
def tYesB (K : PySem.W.Frag) (Φ : String → List T → Src → Option (T × Src)) (c : E) (ifs : List Expr) : TT := tB K Φ c
theorem _root_.L2.PTs.imp {X : Cx} {x : List Expr} {t t' : TT} (h : PTs X x t) (w : ∀ σ H Q, t' σ H Q → t σ H Q) : PTs X x t' := ⟨fun pins s σ H Q I q => h.run pins s σ H Q I (w _ _ _ q)⟩
theorem pts_none : PTs X [] (tB X.K Φ (.cB true)) := pts_nil.imp fun σ H Q ⟨H0, g, own, env, s, b, s', r, e, q⟩ => by
  simp only [evE] at e
  cases e
  exact q g H (Le.refl g) r
/-- the walk of a list comprehension with one clause -/
theorem lc_pure {σ : L2.St} {H : Hp} {Q : VK} {vs : List Nat} (hfv : ∀ i ∈ fvI it, i ∉ vs) (htg : ∀ i ∈ tgV tg, i ∈ vs) (h : tF X.K Φ (.comp elt tg it c vs) σ H Q) : tLc (tI X.K Φ it true) (gT X.K tg) (tB X.K Φ c) (tE X.K Φ elt false) vs σ H Q := by
  obtain ⟨H0, g, own, env, s, t, s', r, e, q⟩ := h
  simp only [evE] at e
  cases e1 : (evE Φ it true env s).bind seqS with
  | none => rw [e1] at e; cases e
  | some pr =>
  obtain ⟨xs, s1⟩ := pr
  rw [e1] at e
  simp only [Option.ite_none_right_eq_some] at e
  obtain ⟨hfree, e⟩ := e
  cases e2 : compL (evE Φ elt false) (evE Φ c true) tg (Gh.wipe env vs) xs s1 with
  | none => rw [e2] at e; cases e
  | some pr =>
  obtain ⟨fin, s2⟩ := pr
  rw [e2] at e
  simp only [fits, Option.ite_none_right_eq_some, Option.some.injEq, Prod.mk.injEq] at e
  obtain ⟨hlen, rfl, rfl⟩ := e
  refine ⟨H0, g, own, env, s, xs, s1, r, e1, fun g1 J G Y H1 l1 r1 w hG hY D hD => ?_⟩
  have d0 := r1.g0 hD
  have dP := r1.gP hD
  have dO := r1.gO hD
  refine lc_it w (Qd := Q (.ref D)) (fun i H => ∃ g' si acc accT rest, Le g1 g' ∧ R X.K (H0.hold D (.lst acc)) g' own (Gh.wipe env vs) si (L2.wipe σ vs) H ∧ Reps X.K g' acc accT ∧ compL (evE Φ elt false) (evE Φ c true) tg (Gh.wipe env vs) (xs.drop i) si = some (rest, s2) ∧ accT ++ rest = fin) ?_ ?_ ?_ ?_
  · exact ⟨g1, s1, [], [], fin, Le.refl _, (r1.held (o := .lst []) hD True.intro).wipe vs, .nil, by simpa using e2, rfl⟩
  · rintro i H hi ⟨g', si, acc, accT, rest, l', r', ha, hc, hf⟩
    exact hG _ g' own _ si _ H l' (Same.wipe r hfv) r'
  · rintro i x H H' hi ⟨g', si, acc, accT, rest, l', r', ha, hc, hf⟩ y
    obtain ⟨g2, t, hx, l2, r2, hr⟩ := hY i x _ g' own _ si _ H H' hi l' (Same.wipe r hfv) r' y
    have hd : xs.drop i = t :: xs.drop (i + 1) := by
      obtain ⟨h1, h2⟩ := List.getElem?_eq_some_iff.mp hx
      rw [← h2]
      exact List.drop_eq_getElem_cons h1
    rw [hd] at hc
    simp only [compL] at hc
    split at hc
    · cases hc
    · rename_i env1 ea
      refine ⟨_, g2, own, _, si, t, env1, r2, hr, ea, fun σ2 rr ww => ⟨?_, ?_⟩⟩
      · rw [ww vs htg]; exact wipe_sub fun i hi => hi
      · have w2 : L2.wipe σ2 vs = L2.wipe σ vs := by rw [ww vs htg]; exact wipe_sub fun i hi => hi
        have w3 : Gh.wipe env1 vs = Gh.wipe env vs := by rw [asgTg_wipe ea htg]; exact wipeE_sub fun i hi => hi
        split at hc
        · rename_i s3 e3
          refine ⟨_, g2, own, env1, si, true, s3, rr, e3, fun g3 H3 l3 r3 => ?_⟩
          simp only [if_true]
          split at hc
          · cases hc
          · rename_i ty s4 e4
            split at hc
            · cases hc
            · rename_i ys s5 e5
              cases hc
              refine ⟨_, g3, own, env1, s3, ty, s4, r3, e4, fun g4 yv H4 l4 r4 p4 => ?_⟩
              have zz := r4.isHeld
              have la := ha.length
              have lf := congrArg List.length hf
              simp only [List.length_append, List.length_cons] at lf
              refine ⟨acc, zz.1, by rw [sizeLine_eq]; have : fin.length ≤ 16777216 := hlen; omega, g4, s4, acc ++ [yv], accT ++ [ty], ys, l'.trans (l2.trans (l3.trans l4)), ?_, (ha.mono (l2.trans (l3.trans l4))).snoc p4, e5, by rw [List.append_assoc]; exact hf⟩
              have r5 := (r4.item (o' := .lst (acc ++ [yv])) d0 dP dO True.intro).wipe vs
              rw [w2, w3] at r5
              exact r5
        · rename_i s3 e3
          refine ⟨_, g2, own, env1, si, false, s3, rr, e3, fun g3 H3 l3 r3 => ?_⟩
          simp only [Bool.false_eq_true, if_false]
          refine ⟨g3, s3, acc, accT, rest, l'.trans (l2.trans l3), ?_, ha.mono (l2.trans l3), hc, hf⟩
          have r5 := r3.wipe vs
          rw [w2, w3] at r5
          exact r5
        · cases hc
  · rintro H ⟨g', si, acc, accT, rest, l', r', ha, hc, hf⟩
    rw [List.drop_length] at hc
    simp only [compL] at hc
    cases hc
    rw [List.append_nil] at hf
    subst hf
    have zz := r'.isHeld
    exact q g' (.ref D) H (l1.trans l') (r.unwipe (l1.trans l') hfree (r'.unhold d0 dP)) (.inr ⟨D, .lst acc, rfl, zz.1, .lst ha, zz.2.1, dO, d0, zz.2.2⟩)
end
end Gh
set_option linter.all false
set_option maxRecDepth 100000
set_option maxHeartbeats 1000000
namespace Gh
open PySem PySem.Spec PyProof.Rows L2

theorem it_gen {J : It} {n : Nat} {G : Hp → Prop} {Y : Nat → Hp → V → Hp → Prop} (w : Walk J n G Y) {H0 : Hp} {Qd : Hp → Prop} (body : V → Hp → (Hp → Prop) → Prop) (Pv : Nat → Hp → Prop) (h0 : Pv 0 H0) (hG : ∀ i H, i ≤ n → Pv i H → G H)
    (hs : ∀ i x H H', i < n → Pv i H → Y i H x H' → body x H' (Pv (i + 1))) (hd : ∀ H, Pv n H → Qd H) :
    ∃ W : Nat → Nat → Hp → Prop, (∃ m, W 0 m H0) ∧ ∀ i m H, W i m H → (J.stop i H ∧ Qd H) ∨ (J.go i H ∧ ∃ Nx : Hp → Prop, (∀ H', Nx H' → ∃ m', m' < m ∧ W (i + 1) m' H') ∧ ∀ x H', J.yld i H x H' → body x H' Nx) := by
  refine ⟨fun i m H => m = n - i ∧ i ≤ n ∧ Pv i H, ⟨n, by simp, Nat.zero_le _, h0⟩, ?_⟩
  rintro i m H ⟨rfl, hi, pq⟩
  by_cases hlt : i < n
  · exact .inr ⟨w.goes i H hlt (hG i H hi pq), Pv (i + 1), fun H' p' => ⟨n - (i + 1), by omega, rfl, hlt, p'⟩, fun x H' y => hs i x H H' hlt pq (w.yields i H x H' hlt (hG i H hi pq) y)⟩
  · have e : i = n := by omega
    subst e
    exact .inl ⟨w.stops H (hG _ H hi pq), hd H pq⟩
section
variable {Φ : String → List T → Src → Option (T × Src)} {X : Cx} {elt it it2 : E} {tg tg2 : Tg}
theorem lc2_pure {σ : L2.St} {H : Hp} {Q : VK} {vs : List Nat} (hfv : ∀ i ∈ fvI it, i ∉ vs) (htg : ∀ i ∈ tgV tg, i ∈ vs) (hfv2 : ∀ i ∈ fvI it2, i ∉ tgV tg2) (htg2 : ∀ i ∈ tgV tg2, i ∈ vs) (h : tF X.K Φ (.comp2 elt tg it tg2 it2 vs) σ H Q) :
    tLc2 (tI X.K Φ it true) (gT X.K tg) tYes (tI X.K Φ it2 true) (gT X.K tg2) tYes (tE X.K Φ elt false) vs (tgV tg2) σ H Q := by
  obtain ⟨H0, g, own, env, s, t, s', r, e, q⟩ := h
  simp only [evE] at e
  cases e1 : (evE Φ it true env s).bind seqS with
  | none => rw [e1] at e; cases e
  | some pr =>
  obtain ⟨xs, s1⟩ := pr
  rw [e1] at e
  simp only [Option.ite_none_right_eq_some] at e
  obtain ⟨hfree, e⟩ := e
  -- the inner part
  let inner : List Slot → Src → Option (List T × Src) := fun env1 s2 => match (evE Φ it2 true env1 s2).bind seqS with
        | none => none
        | some (ys, s3) => compL (evE Φ elt false) (fun _ s => some (.bl true, s)) tg2 (Gh.wipe env1 (tgV tg2)) ys s3
  have e : fits (compL2 inner tg (Gh.wipe env vs) xs s1) = some (t, s') := e
  cases e2 : compL2 inner tg (Gh.wipe env vs) xs s1 with
  | none => rw [e2] at e; cases e
  | some pr =>
  obtain ⟨fin, s2⟩ := pr
  rw [e2] at e
  simp only [fits, Option.ite_none_right_eq_some, Option.some.injEq, Prod.mk.injEq] at e
  obtain ⟨hlen, rfl, rfl⟩ := e
  refine ⟨H0, g, own, env, s, xs, s1, r, e1, fun g1 J G Y H1 l1 r1 w hG hY D hD => ?_⟩
  have d0 := r1.g0 hD
  have dP := r1.gP hD
  have dO := r1.gO hD
  refine it_gen w (Qd := Q (.ref D)) (fun x H' Nx => gT X.K tg x (L2.wipe σ vs) H' fun σ2 H2 => L2.wipe σ2 vs = L2.wipe σ vs ∧ tYes σ2 H2 fun b H3 =>
    if b = true then tI X.K Φ it2 true σ2 H3 fun J1 H4 => ∃ W1 : Nat → Nat → Hp → Prop, (∃ m, W1 0 m H4) ∧ ∀ j k H, W1 j k H →
      (J1.stop j H ∧ Nx H) ∨ (J1.go j H ∧ ∃ Nx1 : Hp → Prop, (∀ H', Nx1 H' → ∃ k', k' < k ∧ W1 (j + 1) k' H') ∧ ∀ x H', J1.yld j H x H' → gT X.K tg2 x (L2.wipe σ2 (tgV tg2)) H' fun σ3 H5 => L2.wipe σ3 (tgV tg2) = L2.wipe σ2 (tgV tg2) ∧ tYes σ3 H5 fun b H6 =>
        if b = true then tE X.K Φ elt false σ3 H6 fun y H7 => ∃ acc, H7 D = some (.lst acc) ∧ acc.length < sizeLine ∧ Nx1 (upd H7 D (.lst (acc ++ [y]))) else Nx1 H6)
    else Nx H3)
    (fun i H => ∃ g' si acc accT rest, Le g1 g' ∧ R X.K (H0.hold D (.lst acc)) g' own (Gh.wipe env vs) si (L2.wipe σ vs) H ∧ Reps X.K g' acc accT ∧ compL2 inner tg (Gh.wipe env vs) (xs.drop i) si = some (rest, s2) ∧ accT ++ rest = fin) ?_ ?_ ?_ ?_
  · exact ⟨g1, s1, [], [], fin, Le.refl _, (r1.held (o := .lst []) hD True.intro).wipe vs, .nil, by simpa using e2, rfl⟩
  · rintro i H hi ⟨g', si, acc, accT, rest, l', r', ha, hc, hf⟩
    exact hG _ g' own _ si _ H l' (Same.wipe r hfv) r'
  · rintro i x H H' hi ⟨g', si, acc, accT, rest, l', r', ha, hc, hf⟩ y
    obtain ⟨g2, t, hx, l2, r2, hr⟩ := hY i x _ g' own _ si _ H H' hi l' (Same.wipe r hfv) r' y
    have hd : xs.drop i = t :: xs.drop (i + 1) := by
      obtain ⟨h1, h2⟩ := List.getElem?_eq_some_iff.mp hx
      rw [← h2]
      exact List.drop_eq_getElem_cons h1
    rw [hd] at hc
    simp only [compL2] at hc
    split at hc
    · cases hc
    · rename_i env1 ea
      refine ⟨_, g2, own, _, si, t, env1, r2, hr, ea, fun σ2 rr ww => ⟨?_, ?_⟩⟩
      · rw [ww vs htg]; exact wipe_sub fun i hi => hi
      · have w2 : L2.wipe σ2 vs = L2.wipe σ vs := by rw [ww vs htg]; exact wipe_sub fun i hi => hi
        have w3 : Gh.wipe env1 vs = Gh.wipe env vs := by rw [asgTg_wipe ea htg]; exact wipeE_sub fun i hi => hi
        split at hc
        · cases hc
        · rename_i ys s3 e3
          split at hc
          · cases hc
          · rename_i zs s4 e4
            cases hc
            simp only [tYes, if_true]
            have e3 : (match (evE Φ it2 true env1 si).bind seqS with
              | none => none
              | some (ys, s3) => compL (evE Φ elt false) (fun _ s => some (.bl true, s)) tg2 (Gh.wipe env1 (tgV tg2)) ys s3) = some (ys, s3) := e3
            cases f1 : (evE Φ it2 true env1 si).bind seqS with
            | none => rw [f1] at e3; cases e3
            | some pr =>
            obtain ⟨us, s5⟩ := pr
            rw [f1] at e3
            have e3 : compL (evE Φ elt false) (fun _ s => some (.bl true, s)) tg2 (Gh.wipe env1 (tgV tg2)) us s5 = some (ys, s3) := e3
            refine ⟨_, g2, own, env1, si, us, s5, rr, f1, fun g3 J1 G1 Y1 H3 l3 r3 w1 hG1 hY1 => ?_⟩
            refine it_gen w1 (fun x H' Nx1 => gT X.K tg2 x (L2.wipe σ2 (tgV tg2)) H' fun σ3 H5 => L2.wipe σ3 (tgV tg2) = L2.wipe σ2 (tgV tg2) ∧
              tE X.K Φ elt false σ3 H5 fun y H7 => ∃ acc, H7 D = some (.lst acc) ∧ acc.length < sizeLine ∧ Nx1 (upd H7 D (.lst (acc ++ [y]))))
              (fun j H => ∃ g' sj acc accT rest, Le g3 g' ∧ R X.K (H0.hold D (.lst acc)) g' own (Gh.wipe env1 (tgV tg2)) sj (L2.wipe σ2 (tgV tg2)) H ∧ Reps X.K g' acc accT ∧ compL (evE Φ elt false) (fun _ s => some (.bl true, s)) tg2 (Gh.wipe env1 (tgV tg2)) (us.drop j) sj = some (rest, s3) ∧ accT ++ (rest ++ zs) = fin) ?_ ?_ ?_ ?_
            · exact ⟨g3, s5, acc, accT, ys, Le.refl _, r3.wipe _, ha.mono (l2.trans l3), by simpa using e3, by rw [← hf]⟩
            · rintro j H hj ⟨g4, sj, acc', accT', rest', l4, r4, ha4, hc4, hf4⟩
              exact hG1 _ g4 own _ sj _ H l4 (Same.wipe rr hfv2) r4
            · rintro j x H H' hj ⟨g4, sj, acc', accT', rest', l4, r4, ha4, hc4, hf4⟩ y
              obtain ⟨g5, t5, hx5, l5, r5, hr5⟩ := hY1 j x _ g4 own _ sj _ H H' hj l4 (Same.wipe rr hfv2) r4 y
              have hd5 : us.drop j = t5 :: us.drop (j + 1) := by
                obtain ⟨h1, h2⟩ := List.getElem?_eq_some_iff.mp hx5
                rw [← h2]
                exact List.drop_eq_getElem_cons h1
              rw [hd5] at hc4
              simp only [compL] at hc4
              split at hc4
              · cases hc4
              · rename_i env2 ea2
                refine ⟨_, g5, own, _, sj, t5, env2, r5, hr5, ea2, fun σ3 rr3 ww3 => ⟨?_, ?_⟩⟩
                · rw [ww3 _ fun i hi => hi]; exact wipe_sub fun i hi => hi
                · have w4 : L2.wipe σ3 (tgV tg2) = L2.wipe σ2 (tgV tg2) := by rw [ww3 _ fun i hi => hi]; exact wipe_sub fun i hi => hi
                  have w5 : Gh.wipe env2 (tgV tg2) = Gh.wipe env1 (tgV tg2) := by rw [asgTg_wipe ea2 fun i hi => hi]; exact wipeE_sub fun i hi => hi
                  split at hc4
                  · cases hc4
                  · rename_i ty s6 e6
                    split at hc4
                    · cases hc4
                    · rename_i ys' s7 e7
                      cases hc4
                      refine ⟨_, g5, own, env2, sj, ty, s6, rr3, e6, fun g6 yv H6 l6 r6 p6 => ?_⟩
                      have zz := r6.isHeld
                      have la := ha4.length
                      have lf := congrArg List.length hf4
                      simp only [List.length_append, List.length_cons] at lf
                      refine ⟨acc', zz.1, by rw [sizeLine_eq]; have : fin.length ≤ 16777216 := hlen; omega, g6, s6, acc' ++ [yv], accT' ++ [ty], ys', l4.trans (l5.trans l6), ?_, (ha4.mono (l5.trans l6)).snoc p6, e7, by rw [← hf4]; simp⟩
                      have r7 := (r6.item (o' := .lst (acc' ++ [yv])) d0 dP dO True.intro).wipe (tgV tg2)
                      rw [w4, w5] at r7
                      exact r7
            · rintro H ⟨g4, sj, acc', accT', rest', l4, r4, ha4, hc4, hf4⟩
              rw [List.drop_length] at hc4
              simp only [compL] at hc4
              cases hc4
              have r5 := r4.wipe vs
              rw [wipeE_sub htg2, wipe_sub htg2, w2, w3] at r5
              exact ⟨g4, s3, acc', accT', zs, l'.trans (l2.trans (l3.trans l4)), r5, ha4, e4, by rw [← hf4]; rfl⟩
  · rintro H ⟨g', si, acc, accT, rest, l', r', ha, hc, hf⟩
    rw [List.drop_length] at hc
    simp only [compL2] at hc
    cases hc
    rw [List.append_nil] at hf
    subst hf
    have zz := r'.isHeld
    exact q g' (.ref D) H (l1.trans l') (r.unwipe (l1.trans l') hfree (r'.unhold d0 dP)) (.inr ⟨D, .lst acc, rfl, zz.1, .lst ha, zz.2.1, dO, d0, zz.2.2⟩)
end
end Gh
set_option linter.all false
set_option maxRecDepth 100000
set_option maxHeartbeats 1000000
namespace Gh
open PySem PySem.Spec PyProof.Rows L2

/-! ### one's own containers by slot -/
section
variable {K : PySem.W.Frag} {H0 : Fm} {g : Gs} {own : Own} {env : List Slot} {s : Src} {σ : L2.St} {H : Hp}
def setOwn (own : Own) (p : Addr) (i : Option Nat) : Own := fun a => if a = p then i else own a
/-- what another slot holds stays -/
theorem SlotR.other {g' : Gs} {own' : Own} {H' : Hp} (l : Le g g') (k : ∀ a i o, own a = some i → H a = some o → (own' a = some i ∧ H' a = some o) ∨ False) {i : Nat} {v : Option V} {x : Slot} (h : SlotR K g own H i v x) : SlotR K g' own' H' i v x := by
  cases h with
  | un => exact .un
  | sh z => exact .sh (z.mono l)
  | ow f1 f2 f3 =>
    rcases k _ _ _ f1 f2 with ⟨h1, h2⟩ | h
    · exact .ow h1 h2 (f3.mono l)
    · exact h.elim
  | lk => exact .lk
  | ow2 f1 f2 f3 f4 =>
    rcases k _ _ _ f1 f2 with ⟨h1, h2⟩ | h
    · refine .ow2 h1 h2 f3 ?_
      clear f2 f3 h2
      induction f4 with
      | nil => exact .nil
      | cons a b c _ ih =>
        rcases k _ _ _ a b with ⟨h3, h4⟩ | h
        · exact .cons h3 h4 (c.mono l) ih
        · exact h.elim
    · exact h.elim
/-- a new container becomes slot i's own -/
theorem R.take (r : R K H0 g own env s σ H) {p : Addr} {o : HO} {t : T} {i : Nat} (hp : H p = some o) (ht : Top K g o t) (gp : g.S p = none) (op : own p = none) (h0 : H0.H0 p = none) (lp : ¬ g.isL p) : R K H0 g (setOwn own p (some i)) (env.set i (.ow t)) s (σ.set i (some (.ref p))) H := by
  have nt : noTup o := by cases ht <;> exact True.intro
  have ne : ∀ a j, own a = some j → a ≠ p := fun a j e z => by rw [z, op] at e; cases e
  have ow' : ∀ a j, own a = some j → setOwn own p (some i) a = some j := fun a j e => by unfold setOwn; rw [if_neg (ne a j e)]; exact e
  have r1 : R K H0 g (setOwn own p (some i)) env s σ H := by
    refine ⟨r.len, r.sub, r.keep, r.prot, r.prL, r.src, fun a ha => ⟨(r.locS a ha).1, ?_⟩, fun a j e => ?_, fun j v x e1 e2 => (r.slot j v x e1 e2).other (Le.refl g) fun a k o e h => .inl ⟨ow' a k e, h⟩, r.lkd⟩
    · unfold setOwn
      rw [if_neg (fun z => lp (by rw [← z]; exact ha))]
      exact (r.locS a ha).2
    · unfold setOwn at e
      split at e
      · rename_i z; subst z; exact ⟨gp, h0, o, hp, nt⟩
      · exact r.own_ a j e
  exact r1.setS (.ow (by unfold setOwn; rw [if_pos rfl]) hp ht) (fun _ z => by cases z)
/-- slot i's own container is written -/
theorem R.write (r : R K H0 g own env s σ H) {i : Nat} {p : Addr} {o' : HO} {t : T} {x : Slot} (hσ : σ[i]? = some (some (.ref p))) (he : env[i]? = some x) (ow : own p = some i) (hx : ∃ o t, x = .ow t ∧ H p = some o ∧ Top K g o t) (ht : Top K g o' t) : R K H0 g own (env.set i (.ow t)) s σ (upd H p o') := by
  obtain ⟨u0, t0, rfl, hp, ht0⟩ := hx
  obtain ⟨gp, h0, _, _, _⟩ := r.own_ p i ow
  have nt : noTup o' := by cases ht <;> exact True.intro
  have lp : ¬ g.isL p := fun z => by rw [(r.locS p z).2] at ow; cases ow
  have hl : i < env.length := (List.getElem?_eq_some_iff.mp he).1
  have eσ : σ = σ.set i (some (.ref p)) := by
    apply List.ext_getElem?
    intro j
    rw [List.getElem?_set]
    by_cases hj : i = j
    · subst hj; rw [if_pos rfl, if_pos (by rw [r.len]; exact hl)]; exact hσ
    · rw [if_neg hj]
  refine ⟨by rw [List.length_set]; exact r.len, fun a u e => ?_, fun a u e nl => ?_, r.prot, r.prL, ?_, r.locS, fun a j e => ?_, fun j v y e1 e2 => ?_, fun j t' e => (by
      rw [List.getElem?_set] at e
      by_cases hj : i = j
      · subst hj; rw [if_pos rfl, if_pos hl] at e; cases e
      · rw [if_neg hj] at e; exact r.lkd j t' e)⟩
  · rw [upd_ne (ne_of_none e gp)]; exact r.sub a u e
  · rw [upd_ne (ne_of_none e h0)]; exact r.keep a u e nl
  · have q := r.src
    unfold SrcR at q ⊢
    split at q
    · trivial
    · rename_i a c st e
      have na : a ≠ p := fun z => lp ⟨a, c, e, .inl z.symm⟩
      have nc : c ≠ p := fun z => lp ⟨a, c, e, .inr z.symm⟩
      exact ⟨by rw [upd_ne na]; exact q.1, by rw [upd_ne nc]; exact q.2.1, q.2.2⟩
    · cases q
  · obtain ⟨h1, h2, u, h3, h4⟩ := r.own_ a j e
    by_cases z : a = p
    · subst z; exact ⟨h1, h2, o', upd_same, nt⟩
    · exact ⟨h1, h2, u, by rw [upd_ne z]; exact h3, h4⟩
  · rw [List.getElem?_set] at e2
    by_cases hj : i = j
    · subst hj
      rw [if_pos rfl, if_pos hl] at e2
      rw [hσ] at e1
      cases e1; cases e2
      exact .ow ow upd_same ht
    · rw [if_neg hj] at e2
      have q := r.slot j v y e1 e2
      -- its addresses have another owner
      have ne : ∀ a, own a = some j → a ≠ p := fun a e z => by rw [z, ow] at e; exact hj (Option.some.inj e)
      cases q with
      | un => exact .un
      | sh z => exact .sh z
      | ow f1 f2 f3 => exact .ow f1 (by rw [upd_ne (ne _ f1)]; exact f2) f3
      | lk => exact .lk
      | ow2 f1 f2 f3 f4 =>
        refine .ow2 f1 (by rw [upd_ne (ne _ f1)]; exact f2) f3 ?_
        clear f2 f3 e2
        induction f4 with
        | nil => exact .nil
        | cons a b c _ ih => exact .cons a (by rw [upd_ne (ne _ a)]; exact b) c ih
/-- slot i's own container is shared from now on -/
theorem R.shareS1 (r : R K H0 g own env s σ H) {i : Nat} {t : T} (he : env[i]? = some (.ow t)) : ∃ g' own', Le g g' ∧ R K H0 g' own' (env.set i (.sh t)) s σ H ∧ ∀ a j, own a = some j → own' a = some j ∨ ∃ o, g'.S a = some o ∧ H a = some o := by
  have hl : i < env.length := (List.getElem?_eq_some_iff.mp he).1
  have hi : i < σ.length := by rw [r.len]; exact hl
  have q := r.slot i _ _ (List.getElem?_eq_getElem hi) he
  generalize hv : σ[i] = v at q
  cases q with
  | @ow p o _ f1 f2 f3 =>
  obtain ⟨gp, h0, _, _, _⟩ := r.own_ p i f1
  have lp : ¬ g.isL p := fun z => by rw [(r.locS p z).2] at f1; cases f1
  have pp : ¬ H0.P p := fun z => by obtain ⟨_, o', e, _⟩ := r.prot p z; rw [h0] at e; cases e
  have eσ : σ = σ.set i (some (.ref p)) := by
    apply List.ext_getElem?
    intro j
    rw [List.getElem?_set]
    by_cases hj : i = j
    · subst hj; rw [if_pos rfl, if_pos hi, List.getElem?_eq_getElem hi, hv]
    · rw [if_neg hj]
  -- nobody's own any more; the slot forgotten
  have r1 : R K H0 g (setOwn own p none) (env.set i .un) s σ H := by
    refine ⟨by rw [List.length_set]; exact r.len, r.sub, r.keep, r.prot, r.prL, r.src, fun a ha => ⟨(r.locS a ha).1, ?_⟩, fun a j e => ?_, fun j v y e1 e2 => ?_, fun j t' e => (by
      rw [List.getElem?_set] at e
      by_cases hj : i = j
      · subst hj; rw [if_pos rfl, if_pos hl] at e; cases e
      · rw [if_neg hj] at e; exact r.lkd j t' e)⟩
    · unfold setOwn
      split
      · rfl
      · exact (r.locS a ha).2
    · unfold setOwn at e
      split at e
      · cases e
      · exact r.own_ a j e
    · rw [List.getElem?_set] at e2
      by_cases hj : i = j
      · subst hj
        rw [if_pos rfl, if_pos hl] at e2
        cases e2; exact .un
      · rw [if_neg hj] at e2
        have q := r.slot j v y e1 e2
        have ow' : ∀ a, own a = some j → setOwn own p none a = some j := fun a e => by
          unfold setOwn
          rw [if_neg (fun z => by rw [z, f1] at e; exact hj (Option.some.inj e))]
          exact e
        cases q with
        | un => exact .un
        | sh z => exact .sh z
        | ow f1 f2 f3 => exact .ow (ow' _ f1) f2 f3
        | lk => exact .lk
        | ow2 f1 f2 f3 f4 =>
          refine .ow2 (ow' _ f1) f2 f3 ?_
          clear f2 f3 e2
          induction f4 with
          | nil => exact .nil
          | cons a b c _ ih => exact .cons (ow' _ a) b c ih
  have r2 := r1.share f2 gp (by unfold setOwn; rw [if_pos rfl]) lp pp
  have l2 : Le g (g.add p o) := Le.add gp
  have r3 := r2.setR (i := i) (v := .ref p) ((f3.mono l2).rep (by show upd g.S p o p = some o; exact upd_same))
  rw [List.set_set, ← eσ] at r3
  refine ⟨_, _, l2, r3, fun a j e => ?_⟩
  by_cases z : a = p
  · subst z; exact .inr ⟨o, upd_same, f2⟩
  · exact .inl (by unfold setOwn; rw [if_neg z]; exact e)
theorem R.drop (r : R K H0 g own env s σ H) : R K H0 g (fun _ => none) [] s [] H :=
  ⟨rfl, r.sub, r.keep, r.prot, r.prL, r.src, fun a ha => ⟨(r.locS a ha).1, rfl⟩, fun a i e => (by cases e), fun i v x e1 e2 => (by simp at e1), fun i t e => (by simp at e)⟩
/-- what slot i's own container is -/
theorem R.ownAt (r : R K H0 g own env s σ H) {i : Nat} {t : T} (he : env[i]? = some (.ow t)) : ∃ p o, σ[i]? = some (some (.ref p)) ∧ own p = some i ∧ H p = some o ∧ Top K g o t := by
  have hl : i < env.length := (List.getElem?_eq_some_iff.mp he).1
  have hi : i < σ.length := by rw [r.len]; exact hl
  have q := r.slot i _ _ (List.getElem?_eq_getElem hi) he
  generalize hv : σ[i] = v at q
  cases q with
  | @ow p o _ f1 f2 f3 => exact ⟨p, o, by rw [List.getElem?_eq_getElem hi, hv], f1, f2, f3⟩
end
def PostS (K : PySem.W.Frag) (H0 : Fm) (D : Ends) (g : Gs) (env : List Slot) (s : Src) : Out → Prop
  | .nx => ∀ g' own σ H, Le g g' → R K H0 g' own env s σ H → D.nx σ H
  | .ct => ∀ g' own σ H, Le g g' → R K H0 g' own env s σ H → D.ct σ H
  | .bk => ∀ g' own σ H, Le g g' → R K H0 g' own env s σ H → D.bk σ H
  | .rt t => ∀ g' own σ v H, Le g g' → R K H0 g' own env s σ H → Rep K g' v t → D.rt v H
theorem PostS.mono {K : PySem.W.Frag} {H0 : Fm} {D : Ends} {g g' : Gs} {env : List Slot} {s : Src} {o : Out} (l : Le g g') (h : PostS K H0 D g env s o) : PostS K H0 D g' env s o := by
  cases o with
  | nx => exact fun g2 own σ H l2 r => h g2 own σ H (l.trans l2) r
  | ct => exact fun g2 own σ H l2 r => h g2 own σ H (l.trans l2) r
  | bk => exact fun g2 own σ H l2 r => h g2 own σ H (l.trans l2) r
  | rt t => exact fun g2 own σ v H l2 r p => h g2 own σ v H (l.trans l2) r p
def tSt (K : PySem.W.Frag) (Φ : String → List T → Src → Option (T × Src)) (st : S) : TS := fun D σ H => ∃ H0 g own env s o env' s', R K H0 g own env s σ H ∧ evS Φ st env s = some (o, env', s') ∧ PostS K H0 D g env' s' o
def tSts (K : PySem.W.Frag) (Φ : String → List T → Src → Option (T × Src)) (sts : List S) : TS := fun D σ H => ∃ H0 g own env s o env' s', R K H0 g own env s σ H ∧ evSs Φ sts env s = some (o, env', s') ∧ PostS K H0 D g env' s' o
section
variable {X : Cx} {Φ : String → List T → Src → Option (T × Src)} {C : Ctx} {k : Nat} {x y z : Expr} {a b c : E} {pos p : Pos} {m : Bool} {tg : Tg} {tgx : Expr}
theorem p_nil : PSs X [] (tSts X.K Φ []) := pss_nil.imp fun D σ H ⟨H0, g, own, env, s, o, env', s', r, e, q⟩ => by
  simp only [evSs] at e
  cases e
  exact q g own σ H (Le.refl g) r
theorem p_cons {st : Stmt} {rest : List Stmt} {S1 : S} {r1 : List S} (h1 : PS X st (tSt X.K Φ S1)) (h2 : PSs X rest (tSts X.K Φ r1)) : PSs X (st :: rest) (tSts X.K Φ (S1 :: r1)) := (pss_cons h1 h2).imp fun D σ H ⟨H0, g, own, env, s, o, env', s', r, e, q⟩ => by
  simp only [evSs] at e
  split at e
  · cases e
  · rename_i env1 s1 e1
    refine ⟨H0, g, own, env, s, .nx, env1, s1, r, e1, fun g' own' σ' H' l r' => ?_⟩
    exact ⟨H0, g', own', env1, s1, o, env', s', r', e, q.mono l⟩
  · rename_i o1 hn e1
    cases e
    refine ⟨H0, g, own, env, s, o, env', s', r, e1, ?_⟩
    cases o with
    | nx => exact absurd rfl (hn env' s')
    | ct => exact q
    | bk => exact q
    | rt t => exact q
theorem p_share {i : Nat} {sts : List Stmt} {r1 : List S} (h : PSs X sts (tSts X.K Φ r1)) : PSs X sts (tSts X.K Φ (.share i :: r1)) := h.imp fun D σ H ⟨H0, g, own, env, s, o, env', s', r, e, q⟩ => by
  simp only [evSs, evS] at e
  cases hx : env[i]? with
  | none => rw [hx] at e; cases e
  | some x =>
    rw [hx] at e
    have triv : (∀ us, x ≠ .ow2 us) → shareS x = x → tSts X.K Φ r1 D σ H := fun hn hs => by
      have e : evSs Φ r1 (env.set i (shareS x)) s = some (o, env', s') := by
        cases x with
        | ow2 us => exact absurd rfl (hn us)
        | _ => exact e
      have es : env.set i x = env := by
        apply List.ext_getElem?
        intro j
        rw [List.getElem?_set]
        by_cases hj : i = j
        · subst hj
          rw [if_pos rfl, if_pos (List.getElem?_eq_some_iff.mp hx).1]; exact hx.symm
        · rw [if_neg hj]
      rw [hs, es] at e
      exact ⟨H0, g, own, env, s, o, env', s', r, e, q⟩
    cases x with
    | un => exact triv (fun us z => by cases z) rfl
    | sh t => exact triv (fun us z => by cases z) rfl
    | lk t => exact triv (fun us z => by cases z) rfl
    | ow t =>
      obtain ⟨g', own', l, r', -⟩ := r.shareS1 hx
      exact ⟨H0, g', own', _, s, o, env', s', r', e, q.mono l⟩
    | ow2 xs => cases e
theorem p_ret (h : PE X x (tE X.K Φ a false)) : PS X (.Return (some x) pos) (tSt X.K Φ (.ret a)) := (ps_ret h).imp fun D σ H ⟨H0, g, own, env, s, o, env', s', r, e, q⟩ => by
  simp only [evS] at e
  split at e
  · cases e
  · rename_i t s1 e1
    cases e
    exact ⟨H0, g, own, _, s, t, _, r, e1, fun g' v H' l r' p => q g' own σ v H' l r' p⟩
theorem p_retN : PS X (.Return none pos) (tSt X.K Φ .retN) := (ps_retN (X := X)).imp fun D σ H ⟨H0, g, own, env, s, o, env', s', r, e, q⟩ => by
  simp only [evS] at e
  cases e
  exact q g own σ .non H (Le.refl g) r .non
theorem p_cont : PS X (.Continue pos) (tSt X.K Φ .cont) := (ps_continue (X := X)).imp fun D σ H ⟨H0, g, own, env, s, o, env', s', r, e, q⟩ => by
  simp only [evS] at e
  cases e
  exact q g own σ H (Le.refl g) r
theorem p_brk : PS X (.Break pos) (tSt X.K Φ .brk) := (ps_break (X := X)).imp fun D σ H ⟨H0, g, own, env, s, o, env', s', r, e, q⟩ => by
  simp only [evS] at e
  cases e
  exact q g own σ H (Le.refl g) r
theorem p_pass {st : Stmt} (h : PS X st tNext) : PS X st (tSt X.K Φ .pass) := h.imp fun D σ H ⟨H0, g, own, env, s, o, env', s', r, e, q⟩ => by
  simp only [evS] at e
  cases e
  exact q g own σ H (Le.refl g) r
theorem p_never {st : Stmt} : PS X st (tSt X.K Φ .never) := ps_never.imp fun D σ H ⟨H0, g, own, env, s, o, env', s', r, e, q⟩ => by
  simp only [evS] at e
  cases e
theorem p_ite {u v : List Stmt} {su sv : List S} (hc : PT X x (tB X.K Φ a)) (hu : PSs X u (tSts X.K Φ su)) (hv : PSs X v (tSts X.K Φ sv)) : PS X (.If x u v pos) (tSt X.K Φ (.ite a su sv)) := (ps_if hc hu hv).imp fun D σ H ⟨H0, g, own, env, s, o, env', s', r, e, q⟩ => by
  simp only [evS] at e
  split at e
  · rename_i s1 e1
    refine ⟨H0, g, own, env, s, true, s1, r, e1, fun g' H' l r' => ?_⟩
    simp only [if_true]
    exact ⟨H0, g', own, env, s1, o, env', s', r', e, q.mono l⟩
  · rename_i s1 e1
    refine ⟨H0, g, own, env, s, false, s1, r, e1, fun g' H' l r' => ?_⟩
    simp only [Bool.false_eq_true, if_false]
    exact ⟨H0, g', own, env, s1, o, env', s', r', e, q.mono l⟩
  · cases e
/-! ### for -/
theorem p_for {itx : Expr} {body : List Stmt} {sb : List S} {it : E} (hxe : X.xe = fun _ _ => False) (hc : X.calm = true) (hi : PI X tgx itx (tI X.K Φ it false)) (hg : PG X tgx (gT X.K tg)) (hb : PSs X body (tSts X.K Φ sb))
    (hs : ∀ x, foldedSetIterable itx X.env x = pure x) : PS X (.For tgx itx body [] pos) (tSt X.K Φ (.for_ tg it sb)) := (ps_for (by rw [hxe]; exact PassesOwn.never) hc hi hg hb hs).imp fun D σ H ⟨H0, g, own, env, s, o, env', s', r, e, q⟩ => by
  simp only [evS] at e
  cases e1 : (evE Φ it false env s).bind seqS with
  | none => rw [e1] at e; cases e
  | some pr =>
  obtain ⟨xs, s1⟩ := pr
  rw [e1] at e
  simp only at e
  refine ⟨H0, g, own, env, s, xs, s1, r, e1, fun g1 J G Y H1 l1 r1 w hG hY => ?_⟩
  have sm : ∀ {own' : Own} {env' : List Slot} {σ' : L2.St}, Same false (fvI it) own env σ own' env' σ' := fun h => (by cases h)
  refine for_it w (fun i σ H => ∃ g' own' ei si, Le g1 g' ∧ R X.K H0 g' own' ei si σ H ∧ forL (evSs Φ sb) tg (xs.drop i) ei si = some (o, env', s')) ?_ ?_ ?_ ?_
  · exact ⟨g1, own, env, s1, Le.refl _, r1, by simpa using e⟩
  · rintro i σ' H' hi ⟨g', own', ei, si, l', r', he⟩
    exact hG H0 g' own' ei si σ' H' l' sm r'
  · rintro i x σ' H' H'' hi ⟨g', own', ei, si, l', r', he⟩ y
    obtain ⟨g2, t, hx, l2, r2, hr⟩ := hY i x H0 g' own' ei si σ' H' H'' hi l' sm r' y
    have hd : xs.drop i = t :: xs.drop (i + 1) := by
      obtain ⟨h1, h2⟩ := List.getElem?_eq_some_iff.mp hx
      rw [← h2]
      exact List.drop_eq_getElem_cons h1
    rw [hd] at he
    simp only [forL] at he
    split at he
    · cases he
    · rename_i e2 ea
      refine ⟨H0, g2, own', ei, si, t, e2, r2, hr, ea, fun σ3 r3 _ => ?_⟩
      have ll := l1.trans (l'.trans l2)
      split at he
      · cases he
      · rename_i e3 s3 hbd
        exact ⟨H0, g2, own', e2, si, .nx, e3, s3, r3, hbd, fun g4 own4 σ4 H4 l4 r4 => ⟨g4, own4, e3, s3, l'.trans (l2.trans l4), r4, he⟩⟩
      · rename_i e3 s3 hbd
        exact ⟨H0, g2, own', e2, si, .ct, e3, s3, r3, hbd, fun g4 own4 σ4 H4 l4 r4 => ⟨g4, own4, e3, s3, l'.trans (l2.trans l4), r4, he⟩⟩
      · rename_i e3 s3 hbd
        cases he
        exact ⟨H0, g2, own', e2, si, .bk, _, _, r3, hbd, fun g4 own4 σ4 H4 l4 r4 => q g4 own4 σ4 H4 (ll.trans l4) r4⟩
      · rename_i t3 e3 s3 hbd
        cases he
        exact ⟨H0, g2, own', e2, si, .rt t3, _, _, r3, hbd, fun g4 own4 σ4 v4 H4 l4 r4 p4 => q g4 own4 σ4 v4 H4 (ll.trans l4) r4 p4⟩
  · rintro σ' H' ⟨g', own', ei, si, l', r', he⟩
    rw [List.drop_length] at he
    simp only [forL] at he
    cases he
    exact q g' own' σ' H' (l1.trans l') r'
end
end Gh
set_option linter.all false
set_option maxRecDepth 100000
set_option maxHeartbeats 1000000
namespace Gh
open PySem PySem.Spec PyProof.Rows L2

section
variable {X : Cx} {Φ : String → List T → Src → Option (T × Src)} {C : Ctx} {k : Nat} {x y z : Expr} {a b c : E} {pos p : Pos} {m : Bool} {tg : Tg} {tgx : Expr}
def isLots : E → Bool
  | .lots _ => true
  | _ => false
theorem mkS_sh {e : E} {t : T} (h : freshE e = false) (h2 : isLots e = false) : mkS e t = .sh t := by
  cases e <;> first | (cases h2; done) | (simp only [mkS, h, Bool.false_and]; rfl)
theorem mkS_fr {e : E} {t : T} (h : freshE e = true) (h2 : isLots e = false) : mkS e t = if isCont t then .ow t else .sh t := by
  cases e <;> first | (cases h2; done) | (simp only [mkS, h, Bool.true_and])
/-- name = value, the value new -/
theorem p_asgF {st : Stmt} {j : Nat} (hf : freshE a = true) (hl : isLots a = false) (h : PS X st (tAsg (tF X.K Φ a) (gName j))) : PS X st (tSt X.K Φ (.asg (.var j) a)) := h.imp fun D σ H ⟨H0, g, own, env, s, o, env', s', r, e, q⟩ => by
  simp only [evS] at e
  split at e
  · cases e
  · rename_i t s1 e1
    split at e
    · rename_i hj
      cases e
      refine ⟨H0, g, own, env, s, t, _, r, e1, fun g' v H' l r' fr => ?_⟩
      show D.nx (σ.set j (some v)) H'
      rw [mkS_fr hf hl] at q
      rcases fr with ⟨hc, hr⟩ | ⟨p, o, rfl, f1, f2, f3, f4, f5, f6⟩
      · rw [hc] at q
        exact q g' own _ H' l (r'.setR hr)
      · rw [f2.cont] at q
        exact q g' _ _ H' l (r'.take f1 f2 f3 f4 f5 f6)
    · cases e
/-- name = value -/
theorem p_asgE {st : Stmt} {j : Nat} (hf : freshE a = false) (hl : isLots a = false) (h : PS X st (tAsg (tE X.K Φ a false) (gName j))) : PS X st (tSt X.K Φ (.asg (.var j) a)) := h.imp fun D σ H ⟨H0, g, own, env, s, o, env', s', r, e, q⟩ => by
  simp only [evS] at e
  split at e
  · cases e
  · rename_i t s1 e1
    split at e
    · cases e
      refine ⟨H0, g, own, env, s, t, _, r, e1, fun g' v H' l r' p' => ?_⟩
      show D.nx (σ.set j (some v)) H'
      rw [mkS_sh hf hl] at q
      exact q g' own _ H' l (r'.setR (show Rep _ _ _ _ from p'))
    · cases e
/-- a, b = value -/
theorem p_asgT {st : Stmt} {ts : List Tg} (h : PS X st (tAsg (tE X.K Φ a false) (gT X.K (.tup ts)))) : PS X st (tSt X.K Φ (.asg (.tup ts) a)) := h.imp fun D σ H ⟨H0, g, own, env, s, o, env', s', r, e, q⟩ => by
  simp only [evS] at e
  split at e
  · cases e
  · rename_i t s1 e1
    split at e
    · cases e
    · rename_i env1 ea
      cases e
      refine ⟨H0, g, own, env, s, t, _, r, e1, fun g' v H' l r' p' => ?_⟩
      exact ⟨H0, g', own, env, _, t, _, r', show Rep _ _ _ _ from p', ea, fun σ' r2 _ => q g' own σ' H' l r2⟩
/-! ### x[k] = v -/
def rSetA : TSet := fun o i v H Q => rSetL o i v H Q ∨ ∃ a H', o = .ref a ∧ DPut H a i v H' ∧ Q H'
theorem set_any (hu : X.A.units + 1 < cLine) : PSet X rSetA := by
  intro pins s σ H o i v ov iv u Q I ro ri rv h
  rcases h with h | ⟨a, H', rfl, g, q⟩
  · exact set_list pins s σ H o i v ov iv u Q I ro ri rv h
  · cases ro
    exact d_setItem hu I g ri rv fun s' I' => ⟨H', I', q⟩
/-- the write as the pure part tells it -/
theorem set_of {K : PySem.W.Frag} {H0 : Fm} {g : Gs} {own : Own} {env env' : List Slot} {s : Src} {σ : L2.St} {H : Hp} (r : R K H0 g own env s σ H) {i : Nat} {kv v : V} {kt t : T} (e : setC i kt t env = some env') (hk : Rep K g kv kt) (hv : Rep K g v t) {Q : Hp → Prop}
    (q : ∀ H', R K H0 g own env' s σ H' → Q H') : ∃ p, σ[i]? = some (some (.ref p)) ∧ rSetA (.ref p) kv v H Q := by
  unfold setC at e
  split at e
  · rename_i xs he
    obtain ⟨p, o, h1, h2, h3, h4⟩ := r.ownAt he
    split at e
    · rename_i n
      simp only [Option.map_eq_some_iff] at e
      obtain ⟨j, e1, rfl⟩ := e
      cases hk
      cases h4 with
      | @lst vs _ hr =>
        refine ⟨p, h1, .inl ⟨p, vs, n, j, rfl, rfl, h3, by rw [hr.length]; exact e1, q _ ?_⟩⟩
        exact r.write h1 he h2 ⟨_, _, rfl, h3, .lst hr⟩ (.lst (hr.set j hv))
    · cases e
  · rename_i d hn he
    simp only [Option.map_eq_some_iff] at e
    obtain ⟨d', e1, rfl⟩ := e
    obtain ⟨p, o, h1, h2, h3, h4⟩ := r.ownAt he
    cases h4 with
    | lst hr => exact absurd rfl (hn _)
    | @dK kvs ts hr =>
      cases kt <;> simp only [dput, keyK, Option.map_some, Option.map_none, Option.ite_none_right_eq_some, Option.some.injEq, reduceCtorEq, and_false] at e1
      all_goals
        obtain ⟨hl, rfl⟩ := e1
        refine ⟨p, h1, .inr ⟨p, _, rfl, .inl ⟨kvs, _, h3, keyK_rep hk rfl, by rw [hr.length, sizeLine_eq]; exact hl, rfl⟩, q _ ?_⟩⟩
        exact r.write h1 he h2 ⟨_, _, rfl, h3, .dK hr⟩ (.dK (put_rep _ hr hv))
    | @dT kvs ts hr =>
      cases kt <;> simp only [dput, Option.map_none, Option.ite_none_right_eq_some, Option.some.injEq, reduceCtorEq, and_false, Option.map_eq_some_iff] at e1
      rename_i us
      obtain ⟨hl, ks, hks, rfl⟩ := e1
      cases hk with
      | tup hS hreps =>
        refine ⟨p, h1, .inr ⟨p, _, rfl, .inr ⟨kvs, ks.map kk, _, h3, rfl, ?_, by rw [hr.length, sizeLine_eq]; exact hl, rfl⟩, q _ ?_⟩⟩
        · rw [r.sub _ _ hS, keyKs_rep hreps hks]
        · exact r.write h1 he h2 ⟨_, _, rfl, h3, .dT hr⟩ (.dT (put_repD ks hr hv))
  · cases e
theorem p_set {st : Stmt} {i : Nat} (h : PS X st (tAsg (tE X.K Φ a false) (gSub (tVar i) (tE X.K Φ b false) rSetA))) : PS X st (tSt X.K Φ (.set i b a)) := h.imp fun D σ H ⟨H0, g, own, env, s, o, env', s', r, e, q⟩ => by
  simp only [evS] at e
  split at e
  · cases e
  · rename_i t s1 e1
    split at e
    · cases e
    · rename_i kt s2 e2
      split at e
      · cases e
      · rename_i env1 ea
        cases e
        refine ⟨H0, g, own, env, s, t, s1, r, e1, fun g1 v H1 l1 r1 p1 => ?_⟩
        have hi : ∃ t0, env[i]? = some (.ow t0) := by
          unfold setC at ea
          split at ea
          · exact ⟨_, by assumption⟩
          · exact ⟨_, by assumption⟩
          · cases ea
        obtain ⟨t0, hi⟩ := hi
        obtain ⟨p0, o0, hσ, -, -, -⟩ := r1.ownAt hi
        refine ⟨_, hσ, H0, g1, own, env, s1, kt, _, r1, e2, fun g2 kv H2 l2 r2 p2 => ?_⟩
        obtain ⟨p, hp, hw⟩ := set_of r2 ea (show Rep _ _ _ _ from p2) (Rep.mono l2 (show Rep _ _ _ _ from p1)) (Q := fun H3 => D.nx σ H3) fun H3 r3 => q g2 own σ H3 (l1.trans l2) r3
        rw [hσ] at hp
        cases hp
        exact hw
/-! ### x[k] op= v -/
def rGetA (K : PySem.W.Frag) : V → V → Hp → VK → Prop := fun o i H Q => (∃ a xs n v, o = .ref a ∧ i = .int n ∧ SqL K H a xs ∧ atI xs n = some v ∧ Q v H) ∨ ∃ a v, o = .ref a ∧ DGet H a i (some v) ∧ Q v H
theorem get_any (hu : X.A.units + 1 < cLine) : PGet X (rGetA X.K) := by
  intro pins s σ H o i ov iv Q I ro ri h
  rcases h with ⟨a, xs, n, z, rfl, rfl, hq, he, q⟩ | ⟨a, v, rfl, g, q⟩
  · cases ro
    obtain ⟨t, rfl⟩ := ri
    obtain ⟨its, r, pl, hz⟩ := I.list hq
    obtain ⟨j, h1, h2, h3, h4, h5⟩ := atI_get he
    obtain ⟨w, ew, rw'⟩ := r.get h2
    have hl := r.length
    have hn := line63
    have fin : EP X pins σ Q w s := ⟨z, H, I, rw', q⟩
    by_cases h0 : 0 ≤ n
    · have hj : n.toNat = j := by
        rw [seqIndex_of h0 h5] at h1
        exact Option.some.inj h1
      exact wpAny_getItem_list pl.isList h0 (by omega) (by rw [hj]; simpa using ew) fin
    · have hj : (n + (its.toArray.size : Int)).toNat = j := by
        rw [seqIndex_neg (by omega) h4] at h1
        rw [List.size_toArray, ← hl]
        exact Option.some.inj h1
      exact wpAny_getItem_list_neg pl.isList (by omega) (by rw [List.size_toArray] <;> omega) (by omega) (by rw [hj]; simpa using ew) fin
  · cases ro
    exact d_getItem hu I g ri fun w' s3 I3 rw' => ⟨v, H, I3, rw', q⟩
/-- what int op= int gives -/
def IntOp (K : PySem.W.Frag) (o : Op) (ti : TIp) : Prop := ∀ (i j : Int) (z : T) (H : Hp) (Q : VK), binT o (.int i) (.int j) = some z → (∀ w, Rep K ⟨fun _ => none, none⟩ w z → Q w H) → ti (.int i) (.int j) H Q
theorem int_add {K : PySem.W.Frag} : IntOp K .add (rI0 fun i j => .int (i + j)) := fun i j z H Q e q => by
  simp only [binT, Option.some.injEq] at e
  subst e
  exact ⟨i, j, rfl, rfl, q _ (.int _)⟩
theorem int_sub {K : PySem.W.Frag} : IntOp K .sub (rI0 fun i j => .int (i - j)) := fun i j z H Q e q => by
  simp only [binT, Option.some.injEq] at e
  subst e
  exact ⟨i, j, rfl, rfl, q _ (.int _)⟩
theorem p_augset {st : Stmt} {i : Nat} {o : Op} {ti : TIp} (ht : IntOp X.K o ti) (h : PS X st (tAugS (tVar i) (tE X.K Φ b false) (tE X.K Φ a true) (rGetA X.K) ti rSetA)) : PS X st (tSt X.K Φ (.augset i b o a)) := h.imp fun D σ H ⟨H0, g, own, env, s, ou, env', s', r, e, q⟩ => by
  simp only [evS] at e
  split at e
  · cases e
  · rename_i ct hct
    split at e
    · cases e
    · rename_i kt s1 e1
      split at e
      · cases e
      · rename_i xt e2
        split at e
        · cases e
        · rename_i yt s2 e3
          split at e
          · rename_i n n2 zt e4
            split at e
            · cases e
            · rename_i env1 ea
              cases e
              have hi : ∃ t0, env[i]? = some (.ow t0) := by
                unfold setC at ea
                split at ea
                · exact ⟨_, by assumption⟩
                · exact ⟨_, by assumption⟩
                · cases ea
              obtain ⟨t0, hi⟩ := hi
              rw [hi] at hct
              simp only [Option.bind_some, contS, Option.some.injEq] at hct
              subst hct
              obtain ⟨p0, o0, hσ, -, -, -⟩ := r.ownAt hi
              refine ⟨_, hσ, H0, g, own, env, s, kt, s1, r, e1, fun g1 kv H1 l1 r1 p1 => ?_⟩
              have hv : RepT X.K g1 H1 (.ref p0) t0 := r1.val (.inr ⟨i, _, hσ, hi, rfl, fun u z => by cases z⟩)
              have hk : RepT X.K g1 H1 kv kt := (show Rep _ _ _ _ from p1).top r1.sub
              have rest : ∀ v, Rep X.K g1 v (.int n) → ∀ H1', H1' = H1 → tE X.K Φ a true σ H1' (fun y H4 => ti v y H4 fun z H5 => rSetA (.ref p0) kv z H5 fun H6 => D.nx σ H6) := by
                intro v hv1 H1' eh
                subst eh
                cases hv1
                refine ⟨H0, g1, own, env, s1, _, _, r1, e3, fun g2 u H2 l2 r2 p2 => ?_⟩
                have z2 := r2.val (show ValP _ _ _ _ _ _ _ from p2)
                cases z2
                refine ht n n2 zt H2 _ e4 fun w hw => ?_
                have hw2 : Rep X.K g2 w zt := hw.mono ⟨fun a o e => (by cases e), fun p e => (by cases e)⟩
                obtain ⟨p', hp', hset⟩ := set_of r2 ea (Rep.mono l2 (show Rep _ _ _ _ from p1)) hw2 (Q := fun H3 => D.nx σ H3) fun H3 r3 => q g2 own σ H3 (l1.trans l2) r3
                rw [hσ] at hp'
                cases hp'
                exact hset
              have q1 : PostV X.K H0 own env s1 σ (.int n) (fun v H1' => H1' = H1 ∧ Rep X.K g1 v (.int n)) g1 → True := fun _ => True.intro
              -- the value at the key
              have dk : (dlook t0 kt).bind id = some (.int n) → rGetA X.K (.ref p0) kv H1 (fun x H3 => tE X.K Φ a true σ H3 fun y H4 => ti x y H4 fun z H5 => rSetA (.ref p0) kv z H5 fun H6 => D.nx σ H6) := fun e' => by
                cases hl : dlook t0 kt with
                | none => rw [hl] at e'; cases e'
                | some od =>
                  rw [hl] at e'
                  have eo : od = some (.int n) := e'
                  obtain ⟨ad, w, h1, h2, h3, h4⟩ := dget_of r1 hv hk hl
                  obtain ⟨v, rfl, hvr⟩ := h3 _ eo
                  exact .inr ⟨ad, v, h1, h2, rest v hvr H1 rfl⟩
              cases hv with
              | lst h1 h2 =>
                cases hk with
                | int ki =>
                  obtain ⟨v, ev, hvr⟩ := atI_of h2 e2
                  exact .inl ⟨_, _, ki, v, rfl, rfl, SqL.of h1, ev, rest v hvr H1 rfl⟩
                | _ => simp [idxT, dlook] at e2
              | dK h1 h2 => exact dk (by simpa [idxT] using e2)
              | dT h1 h2 => exact dk (by simpa [idxT] using e2)
              | tup h1 h2 =>
                obtain ⟨p9, o9, h91, -, -, h94⟩ := r1.ownAt hi
                cases h94
              | _ => simp [idxT, dlook] at e2
          · cases e
theorem p_aug {st : Stmt} {i : Nat} {o : Op} {ti : TIp} (ht : IntOp X.K o ti) (h : PS X st (tAug i (tE X.K Φ a true) ti)) : PS X st (tSt X.K Φ (.aug i o a)) := h.imp fun D σ H ⟨H0, g, own, env, s, ou, env', s', r, e, q⟩ => by
  simp only [evS] at e
  split at e
  · rename_i xt hx
    split at e
    · cases e
    · rename_i yt s1 e1
      split at e
      · rename_i n n2 zt e4
        cases e
        have hi : i < σ.length := by rw [r.len]; exact (List.getElem?_eq_some_iff.mp hx).1
        have sl := r.slot i _ _ (List.getElem?_eq_getElem hi) hx
        generalize hv : σ[i] = v at sl
        cases sl with
        | sh hrep =>
        cases hrep
        refine ⟨_, by rw [List.getElem?_eq_getElem hi, hv], H0, g, own, env, s, _, _, r, e1, fun g1 u H1 l1 r1 p1 => ?_⟩
        have z2 := r1.val (show ValP _ _ _ _ _ _ _ from p1)
        cases z2
        refine ht n n2 zt H1 _ e4 fun w hw => ?_
        have hw2 : Rep X.K g1 w zt := hw.mono ⟨fun a o e => (by cases e), fun p e => (by cases e)⟩
        exact q g1 own _ H1 l1 (r1.setR hw2)
      · cases e
  · cases e
/-! ### methods that change one's own container -/
theorem p_app {st : Stmt} {i : Nat} (h : PS X st (tDrop (tBM X.K "list" rAppend (tVar i) (tCons (tE X.K Φ a false) tNil)))) : PS X st (tSt X.K Φ (.app i a)) := h.imp fun D σ H ⟨H0, g, own, env, s, ou, env', s', r, e, q⟩ => by
  simp only [evS] at e
  split at e
  · cases e
  · rename_i t s1 e1
    split at e
    · rename_i xs hx
      split at e
      · rename_i hl
        cases e
        obtain ⟨p0, o0, hσ, h2, h3, h4⟩ := r.ownAt hx
        refine ⟨_, hσ, ?_, H0, g, own, env, s, t, _, r, e1, fun g1 v H1 l1 r1 p1 => ?_⟩
        · cases h4 with
          | lst hr => exact .inl ⟨rfl, _, SqL.of h3⟩
        · obtain ⟨p1', o1, hσ1, h21, h31, h41⟩ := r1.ownAt hx
          rw [hσ] at hσ1
          cases hσ1
          cases h41 with
          | @lst vs _ hr =>
            refine ⟨p0, vs, v, rfl, rfl, h31, by rw [hr.length, sizeLine_eq]; exact hl, ?_⟩
            exact q g1 own σ _ l1 (r1.write hσ hx h21 ⟨_, _, rfl, h31, .lst hr⟩ (.lst (hr.snoc (show Rep _ _ _ _ from p1))))
      · cases e
    · cases e
theorem p_ext {st : Stmt} {i : Nat} (h : PS X st (tDrop (tBM X.K "list" rExtend (tVar i) (tCons (tE X.K Φ a true) tNil)))) : PS X st (tSt X.K Φ (.ext i a)) := h.imp fun D σ H ⟨H0, g, own, env, s, ou, env', s', r, e, q⟩ => by
  simp only [evS] at e
  split at e
  · rename_i ys s1 e1
    split at e
    · rename_i xs hx
      split at e
      · rename_i hl
        cases e
        obtain ⟨p0, o0, hσ, h2, h3, h4⟩ := r.ownAt hx
        refine ⟨_, hσ, ?_, H0, g, own, env, s, _, _, r, e1, fun g1 v H1 l1 r1 p1 => ?_⟩
        · cases h4 with
          | lst hr => exact .inl ⟨rfl, _, SqL.of h3⟩
        · obtain ⟨p1', o1, hσ1, h21, h31, h41⟩ := r1.ownAt hx
          rw [hσ] at hσ1
          cases hσ1
          have hv := r1.val (show ValP _ _ _ _ _ _ _ from p1)
          cases hv with
          | lst hb hbr =>
          cases h41 with
          | @lst vs _ hr =>
            refine ⟨p0, _, vs, _, rfl, rfl, h31, hb, by rw [hr.length, hbr.length, sizeLine_eq]; exact hl, ?_⟩
            exact q g1 own σ _ l1 (r1.write hσ hx h21 ⟨_, _, rfl, h31, .lst hr⟩ (.lst (hr.append hbr)))
      · cases e
    · cases e
  · cases e
/-! ### d.update(e) -/
def rUpd : V → List V → Hp → VK → Prop := fun x vs H Q => ∃ (d o : Addr) (kvs more : List (Key × V)), x = .ref d ∧ vs = [.ref o] ∧ H d = some (.dK kvs) ∧ Rd H o (.dK more) ∧ d ≠ o ∧ kvs.length + more.length ≤ sizeLine ∧ Q .non (upd H d (.dK (mergeK kvs more)))
theorem mt_update : MtM X "dict.update" rUpd := by
  intro pins s σ H x vs v us Q I rx rv h
  obtain ⟨d, o, kvs, more, rfl, rfl, hd, ho, ne, hz, q⟩ := h
  cases rx
  obtain ⟨u, rfl, ru⟩ := rv.one
  cases ru
  obtain ⟨z1, hd1, vs1, r1, dd1⟩ := dk_of I.hok hd
  obtain ⟨z2, hd2, vs2, r2, dd2⟩ := dk_rd I.hok ho
  have l1 : kvs.length = vs1.length := Paired.length r1
  have l2 : more.length = vs2.length := Paired.length r2
  refine call_meetsIn F.slot_dict_update dd1.typeIs F.entry_dict_update (F.args_dict_update_2 _ _) (meets_dict_update (mixKind X.prog X.w) d o ne hd2) ⟨vs1, vs2, dd1, dd2, by omega, fun h' d1 _ sb => ?_⟩
  have he : ∃ q, h'.get? d = some q := let ⟨q, _, _, hq, _⟩ := d1; ⟨q, hq⟩
  refine ⟨.non, _, d_write I (by rw [hd]; exact True.intro) sb he (dk_new ?_ hd1 (r2.merge r1) d1), rfl, q⟩
  have := length_mergeK more kvs
  omega
theorem p_upd {st : Stmt} {i : Nat} (hm : ∀ env s, evE Φ a true env s = evE Φ a false env s) (h : PS X st (tDrop (tBM X.K "dict" rUpd (tVar i) (tCons (tF X.K Φ a) tNil)))) : PS X st (tSt X.K Φ (.upd i a)) := h.imp fun D σ H ⟨H0, g, own, env, s, ou, env', s', r, e, q⟩ => by
  simp only [evS] at e
  split at e
  · rename_i ys s1 e1
    split at e
    · rename_i xs hx
      split at e
      · rename_i hl
        cases e
        obtain ⟨p0, o0, hσ, h2, h3, h4⟩ := r.ownAt hx
        refine ⟨_, hσ, ?_, H0, g, own, env, s, _, _, r, by rw [← hm]; exact e1, fun g1 v H1 l1 r1 fr => ?_⟩
        · cases h4 with
          | dK hr => exact .inr (.inr (.inl ⟨rfl, .inl ⟨_, h3⟩⟩))
        · obtain ⟨p1', o1, hσ1, h21, h31, h41⟩ := r1.ownAt hx
          rw [hσ] at hσ1
          cases hσ1
          rcases fr with ⟨hc, _⟩ | ⟨p9, o9, rfl, f1, f2, f3, f4, f5, f6⟩
          · cases hc
          · cases f2 with
            | @dK more _ hm2 =>
            cases h41 with
            | @dK kvs _ hr =>
              have ne : p0 ≠ p9 := fun z => by rw [z, f4] at h21; cases h21
              refine ⟨p0, p9, kvs, more, rfl, rfl, h31, .inl f1, ne, by rw [hr.length, hm2.length, sizeLine_eq]; exact hl, ?_⟩
              exact q g1 own σ _ l1 (r1.write hσ hx h21 ⟨_, _, rfl, h31, .dK hr⟩ (.dK (merge_rep hm2 hr)))
      · cases e
    · cases e
  · cases e
end
end Gh
set_option linter.all false
set_option maxRecDepth 100000
set_option maxHeartbeats 1000000
namespace Gh
open PySem PySem.Spec PyProof.Rows L2

/-! ### several values, of which some are new -/
inductive FrVs (K : PySem.W.Frag) (g : Gs) (own : Own) (H : Hp) : Fm → List V → List T → List E → Prop
  | nil {H0 : Fm} : FrVs K g own H H0 [] [] []
  | sh {H0 : Fm} {v : V} {t : T} {e : E} {vs : List V} {ts : List T} {es : List E} : freshE e = false → isLots e = false → Rep K g v t → FrVs K g own H H0 vs ts es → FrVs K g own H H0 (v :: vs) (t :: ts) (e :: es)
  | vl {H0 : Fm} {v : V} {t : T} {e : E} {vs : List V} {ts : List T} {es : List E} : freshE e = true → isLots e = false → isCont t = false → Rep K g v t → FrVs K g own H H0 vs ts es → FrVs K g own H H0 (v :: vs) (t :: ts) (e :: es)
  | fr {H0 : Fm} {p : Addr} {o : HO} {t : T} {e : E} {vs : List V} {ts : List T} {es : List E} : freshE e = true → isLots e = false → H p = some o → Top K g o t → g.S p = none → own p = none → H0.H0 p = none → ¬ g.isL p →
      FrVs K g own H (H0.hold p o) vs ts es → FrVs K g own H H0 (.ref p :: vs) (t :: ts) (e :: es)
theorem FrVs.length {K : PySem.W.Frag} {g : Gs} {own : Own} {H : Hp} {H0 : Fm} {vs : List V} {ts : List T} {es : List E} (h : FrVs K g own H H0 vs ts es) : vs.length = ts.length ∧ ts.length = es.length := by
  induction h with
  | nil => exact ⟨rfl, rfl⟩
  | sh _ _ _ _ ih => exact ⟨by simp [ih.1], by simp [ih.2]⟩
  | vl _ _ _ _ _ ih => exact ⟨by simp [ih.1], by simp [ih.2]⟩
  | fr _ _ _ _ _ _ _ _ _ ih => exact ⟨by simp [ih.1], by simp [ih.2]⟩
/-- more own, more in the heap -/
theorem FrVs.conv {K : PySem.W.Frag} {g g' : Gs} {own own' : Own} {H H' : Hp} {H0 : Fm} {vs : List V} {ts : List T} {es : List E} (h : FrVs K g own H H0 vs ts es) : ∀ {H1 : Fm}, (∀ a o, H a = some o → H' a = some o) → Le g g' → (∀ a, H0.H0 a = none → g.S a = none → own a = none → g'.S a = none) →
    (∀ a, g'.isL a → g.isL a) → (∀ a, H0.H0 a = none → own a = none → own' a = none) → (∀ a, H0.H0 a = none → H1.H0 a = none) → FrVs K g' own' H' H1 vs ts es := by
  induction h with
  | nil => intros; exact .nil
  | sh a b c _ ih => intro H1 h1 l h2 h3 h4 h5; exact .sh a b (c.mono l) (ih h1 l h2 h3 h4 h5)
  | vl a b d c _ ih => intro H1 h1 l h2 h3 h4 h5; exact .vl a b d (c.mono l) (ih h1 l h2 h3 h4 h5)
  | @fr Hx p o t e vs ts es a b f1 f2 f3 f4 f5 f6 _ ih =>
    intro H1 h1 l h2 h3 h4 h5
    refine .fr a b (h1 _ _ f1) (f2.mono l) (h2 p f5 f3 f4) (h4 p f5 f4) (h5 p f5) (fun z => f6 (h3 p z)) (ih h1 l ?_ h3 ?_ ?_)
    · intro a ha
      by_cases z : a = p
      · rw [z] at ha; rw [show (Fm.hold Hx p o).H0 p = some o from upd_same] at ha; cases ha
      · rw [show (Fm.hold Hx p o).H0 a = Hx.H0 a from upd_ne z] at ha
        exact h2 a ha
    · intro a ha
      by_cases z : a = p
      · rw [z] at ha; rw [show (Fm.hold Hx p o).H0 p = some o from upd_same] at ha; cases ha
      · rw [show (Fm.hold Hx p o).H0 a = Hx.H0 a from upd_ne z] at ha
        exact h4 a ha
    · intro a ha
      by_cases z : a = p
      · rw [z] at ha; rw [show (Fm.hold Hx p o).H0 p = some o from upd_same] at ha; cases ha
      · rw [show (Fm.hold Hx p o).H0 a = Hx.H0 a from upd_ne z] at ha
        show upd H1.H0 p o a = none
        rw [upd_ne z]; exact h5 a ha
def setAll (σ : L2.St) : List Nat → List V → L2.St
  | j :: js, v :: vs => setAll (σ.set j (some v)) js vs
  | _, _ => σ
section
variable {X : Cx} {Φ : String → List T → Src → Option (T × Src)} {C : Ctx} {k : Nat} {x y z : Expr} {a b c : E} {pos p : Pos}
def tFs (K : PySem.W.Frag) (Φ : String → List T → Src → Option (T × Src)) (es : List E) : TA := fun σ H Q => ∃ H0 g own env s ts s', R K H0 g own env s σ H ∧ evEs Φ es env s = some (ts, s') ∧ ∀ g' vs H', Le g g' → R K H0 g' own env s' σ H' → FrVs K g' own H' H0 vs ts es → Q vs H'
theorem fs_nil : PA X [] (tFs X.K Φ []) := (pa_nil (X := X)).imp fun σ H Q ⟨H0, g, own, env, s, ts, s', r, e, q⟩ => by
  simp only [evEs] at e
  cases e
  exact q g [] H (Le.refl g) r .nil
theorem fs_sh {xs : List Expr} {es : List E} (hf : freshE a = false) (hl : isLots a = false) (ha : PE X x (tE X.K Φ a false)) (hr : PA X xs (tFs X.K Φ es)) (h1 : isStar x = false) (h2 : isStarE a = false) : PA X (x :: xs) (tFs X.K Φ (a :: es)) := (pa_cons ha hr (starEach_cons h1)).imp fun σ H Q ⟨H0, g, own, env, s, ts, s', r, e, q⟩ => by
  rw [evEs_cons h2] at e
  split at e
  · cases e
  · rename_i t1 s1 e1
    split at e
    · cases e
    · rename_i t2 s2 e2
      cases e
      refine ⟨H0, g, own, env, s, t1, s1, r, e1, fun g1 v H1 l1 r1 p1 => ?_⟩
      refine ⟨H0, g1, own, env, s1, t2, _, r1, e2, fun g2 vs H2 l2 r2 p2 => ?_⟩
      exact q g2 (v :: vs) H2 (l1.trans l2) r2 (.sh hf hl (Rep.mono l2 (show Rep _ _ _ _ from p1)) p2)
theorem fs_fr {xs : List Expr} {es : List E} (hf : freshE a = true) (hl : isLots a = false) (ha : PE X x (tF X.K Φ a)) (hr : PA X xs (tFs X.K Φ es)) (h1 : isStar x = false) (h2 : isStarE a = false) : PA X (x :: xs) (tFs X.K Φ (a :: es)) := (pa_cons ha hr (starEach_cons h1)).imp fun σ H Q ⟨H0, g, own, env, s, ts, s', r, e, q⟩ => by
  rw [evEs_cons h2] at e
  split at e
  · cases e
  · rename_i t1 s1 e1
    split at e
    · cases e
    · rename_i t2 s2 e2
      cases e
      refine ⟨H0, g, own, env, s, t1, s1, r, e1, fun g1 v H1 l1 r1 p1 => ?_⟩
      rcases p1 with ⟨hc, p1⟩ | ⟨p, o, rfl, f1, f2, f3, f4, f5, f6⟩
      · refine ⟨H0, g1, own, env, s1, t2, _, r1, e2, fun g2 vs H2 l2 r2 p2 => ?_⟩
        exact q g2 (v :: vs) H2 (l1.trans l2) r2 (.vl hf hl hc (p1.mono l2) p2)
      · have nt : noTup o := by cases f2 <;> exact True.intro
        have nP : ¬ H0.P p := fun z => by obtain ⟨_, o', e, _⟩ := r1.prot p z; rw [f5] at e; cases e
        refine ⟨H0.hold p o, g1, own, env, s1, t2, _, r1.hold f5 f1 f4 f3 f6 nt, e2, fun g2 vs H2 l2 r2 p2 => ?_⟩
        have zz := r2.isHeld
        exact q g2 (.ref p :: vs) H2 (l1.trans l2) (r2.unhold f5 nP (fun u w z => by subst z; cases f2)) (.fr hf hl zz.1 (f2.mono l2) zz.2.1 f4 f5 zz.2.2 p2)
/-- the stores -/
theorem stores_of {K : PySem.W.Frag} : ∀ {js : List Nat} {H0 : Fm} {g : Gs} {own : Own} {env env' : List Slot} {s s' : Src} {σ : L2.St} {H : Hp} {vs : List V} {ts : List T} {es : List E}, R K H0 g own env s σ H → FrVs K g own H H0 vs ts es →
    asgVals Φ (js.map TgS.var) es ts env s = some (env', s') → ∃ own', s' = s ∧ R K H0 g own' env' s (setAll σ js vs) H
  | [], H0, g, own, env, env', s, s', σ, H, vs, ts, es, r, f, e => by
    cases f with
    | nil =>
      simp only [List.map_nil, asgVals] at e
      cases e
      exact ⟨own, rfl, r⟩
    | _ => simp [asgVals] at e
  | j :: js, H0, g, own, env, env', s, s', σ, H, vs, ts, es, r, f, e => by
    cases f with
    | nil => simp [asgVals] at e
    | sh hf hl hr ft =>
      simp only [List.map_cons, asgVals, Option.ite_none_right_eq_some] at e
      obtain ⟨hj, e⟩ := e
      rw [mkS_sh hf hl] at e
      have z := stores_of (js := js) (r.setR (i := j) hr) ft e
      exact z
    | vl hf hl hc hr ft =>
      simp only [List.map_cons, asgVals, Option.ite_none_right_eq_some] at e
      obtain ⟨hj, e⟩ := e
      rw [mkS_fr hf hl, hc, if_neg Bool.false_ne_true] at e
      have z := stores_of (js := js) (r.setR (i := j) hr) ft e
      exact z
    | @fr _ p o t e0 vs ts es hf hl f1 f2 f3 f4 f5 f6 ft =>
      simp only [List.map_cons, asgVals, Option.ite_none_right_eq_some] at e
      obtain ⟨hj, e⟩ := e
      rw [mkS_fr hf hl, f2.cont, if_pos rfl] at e
      have ft' : FrVs K g (setOwn own p (some j)) H H0 vs ts es := ft.conv (fun a o h => h) (Le.refl g) (fun a _ h _ => h) (fun a h => h) (fun a h1 h2 => by
        unfold setOwn
        rw [if_neg (fun z => by rw [z, show (Fm.hold H0 p o).H0 p = some o from upd_same] at h1; cases h1)]
        exact h2) (fun a ha => by
        by_cases z : a = p
        · rw [z]; exact f5
        · rw [show (Fm.hold H0 p o).H0 a = H0.H0 a from upd_ne z] at ha; exact ha)
      have z := stores_of (js := js) (r.take (i := j) f1 f2 f3 f4 f5 f6) ft' e
      exact z
theorem len2 {α : Type} {xs : List α} (h : xs.length = 2) : ∃ a b, xs = [a, b] := by
  cases xs with
  | nil => cases h
  | cons a r => cases r with
    | nil => cases h
    | cons b r => cases r with
      | nil => exact ⟨a, b, rfl⟩
      | cons c r => simp at h
theorem len3 {α : Type} {xs : List α} (h : xs.length = 3) : ∃ a b c, xs = [a, b, c] := by
  cases xs with
  | nil => cases h
  | cons a r => cases r with
    | nil => cases h
    | cons b r => cases r with
      | nil => cases h
      | cons c r => cases r with
        | nil => exact ⟨a, b, c, rfl⟩
        | cons d r => simp at h
/-- a, b = x, y with names on one line -/
theorem p_par2 {st : Stmt} {i j : Nat} (h : PS X st (tPar i j (tFs X.K Φ [a, b]))) : PS X st (tSt X.K Φ (.asgs [.var i, .var j] [a, b])) := h.imp fun D σ H ⟨H0, g, own, env, s, o, env', s', r, e, q⟩ => by
  simp only [evS] at e
  split at e
  · cases e
  · rename_i tt s1 e1
    split at e
    · cases e
    · rename_i env1 s2 e2
      cases e
      refine ⟨H0, g, own, env, s, tt, s1, r, e1, fun g1 vs H1 l1 r1 f1 => ?_⟩
      have hl := f1.length
      obtain ⟨v, w, rfl⟩ := len2 (show vs.length = 2 by rw [hl.1, hl.2]; rfl)
      obtain ⟨own', rfl, r2⟩ := stores_of (js := [i, j]) r1 f1 e2
      exact ⟨v, w, rfl, q g1 own' _ H1 l1 r2⟩
theorem p_par3 {st : Stmt} {i j l : Nat} (h : PS X st (tPar3 i j l (tFs X.K Φ [a, b, c]))) : PS X st (tSt X.K Φ (.asgs [.var i, .var j, .var l] [a, b, c])) := h.imp fun D σ H ⟨H0, g, own, env, s, o, env', s', r, e, q⟩ => by
  simp only [evS] at e
  split at e
  · cases e
  · rename_i tt s1 e1
    split at e
    · cases e
    · rename_i env1 s2 e2
      cases e
      refine ⟨H0, g, own, env, s, tt, s1, r, e1, fun g1 vs H1 l1 r1 f1 => ?_⟩
      have hl := f1.length
      obtain ⟨v, w, u, rfl⟩ := len3 (show vs.length = 3 by rw [hl.1, hl.2]; rfl)
      obtain ⟨own', rfl, r2⟩ := stores_of (js := [i, j, l]) r1 f1 e2
      exact ⟨v, w, u, rfl, q g1 own' _ H1 l1 r2⟩
/-- names stored one behind another -/
def gNames (js : List Nat) : TGs := fun vs σ H Q => vs.length = js.length ∧ Q (setAll σ js vs) H
theorem pgs_names (G : Good Φ C k X) : ∀ (js : List Nat) (es : List Expr), okTgs C (js.map Tg.var) es = true → PGs X es (gNames js)
  | [], es, h => by
    cases es with
    | cons a b => cases h
    | nil =>
      refine (pgs_nil (X := X)).imp fun v σ H Q hq => ?_
      obtain ⟨hl, q⟩ := hq
      have hv : v = [] := List.length_eq_zero_iff.mp hl
      subst hv
      exact ⟨rfl, q⟩
  | j :: js, es, h => by
    cases es with
    | nil => cases h
    | cons e es =>
      have h' : (!isStar e && okTg C (.var j) e && okTgs C (js.map Tg.var) es) = true := h
      simp only [Bool.and_eq_true, Bool.not_eq_true'] at h'
      cases e <;> first | (cases h'.1.2; done) | skip
      rename_i n pos
      obtain ⟨h1, h2, h3⟩ := sto_ok G (show stoB C j n = true from h'.1.2)
      exact (pgs_cons (pg_name G.nd h1 h2 h3) (pgs_names G js es h'.2) (by rw [assignEach_cons h'.1.1]; rfl)).imp fun v σ H Q hq => by
        obtain ⟨hl, q⟩ := hq
        cases v with
        | nil => simp at hl
        | cons v vs => exact ⟨v, vs, rfl, by simpa using hl, q⟩
theorem okTgs_len {C : Ctx} {X : Cx} : ∀ (ts : List Tg) (es : List Expr), okTgs C ts es = true → (assignEach es X.env).length = ts.length ∧ (assignEach es X.env).findIdx? (·.1) = none
  | [], es, h => by
    cases es with
    | nil => exact ⟨rfl, rfl⟩
    | cons a b => cases h
  | t :: ts, es, h => by
    cases es with
    | nil => cases h
    | cons a b =>
      have h' : (!isStar a && okTg C t a && okTgs C ts b) = true := h
      simp only [Bool.and_eq_true, Bool.not_eq_true'] at h'
      obtain ⟨i1, i2⟩ := okTgs_len (X := X) ts b h'.2
      rw [assignEach_cons h'.1.1]
      exact ⟨by simp [i1], by simp [List.findIdx?_cons, i2]⟩
/-- a, b = x, y by way of a tuple -/
theorem p_parT {st : Stmt} {js : List Nat} {es : List E} (hes : es.length ≤ 100) (h : PS X st (tAsg (tTup (tFs X.K Φ es)) (gTup X.K js.length (gNames js)))) : PS X st (tSt X.K Φ (.asgs (js.map TgS.var) es)) := h.imp fun D σ H ⟨H0, g, own, env, s, o, env', s', r, e, q⟩ => by
  simp only [evS] at e
  split at e
  · cases e
  · rename_i tt s1 e1
    split at e
    · cases e
    · rename_i env1 s2 e2
      cases e
      refine ⟨H0, g, own, env, s, tt, s1, r, e1, fun g1 vs H1 l1 r1 f1 => ?_⟩
      have hl := f1.length
      have hj : js.length = vs.length := by
        have : ∀ (js : List Nat) (es : List E) (ts : List T) (env env' : List Slot) (s s' : Src), asgVals Φ (js.map TgS.var) es ts env s = some (env', s') → js.length = ts.length := by
          intro js
          induction js with
          | nil => intro es ts env env' s s' h; cases es <;> cases ts <;> simp [asgVals] at h <;> rfl
          | cons j js ih => intro es ts env env' s s' h; cases es <;> cases ts <;> simp [asgVals] at h; simp [ih _ _ _ _ _ _ h.2]
        rw [this _ _ _ _ _ _ _ e2, hl.1]
      refine ⟨?_, fun p hp => ?_⟩
      · rw [hl.1, hl.2, sizeLine_eq]; omega
      · have r2 := r1.alloc (o := .tup vs) hp
        have f2 : FrVs X.K g1 own (upd H1 p (.tup vs)) H0 vs tt es := f1.conv (fun a o h => by rw [upd_ne (ne_of_none h hp)]; exact h) (Le.refl _) (fun a _ h _ => h) (fun a h => h) (fun a _ h => h) (fun a h => h)
        obtain ⟨own', rfl, r3⟩ := stores_of r2 f2 e2
        exact ⟨p, vs, rfl, .inl (.inl upd_same), hj.symm, hj.symm, q g1 own' _ _ l1 r3⟩
end
end Gh
set_option linter.all false
set_option maxRecDepth 100000
set_option maxHeartbeats 1000000
namespace Gh
open PySem PySem.Spec PyProof.Rows L2

/-! ### {k: v for .. in ..} -/
def dputsK (acc : List (Gh.K × T)) : List T → Option (List (Gh.K × T))
  | [] => some acc
  | .tup [k, v] :: r => match keyK k with
    | none => none
    | some kx => if acc.length < line then dputsK (put acc kx v) r else none
  | _ :: _ => none
theorem dputs_K : ∀ {ps : List T} {acc : List (Gh.K × T)} {d : T}, dputs (.dK acc) ps = some d → ∃ kvs, d = .dK kvs ∧ dputsK acc ps = some kvs
  | [], acc, d, h => by simp only [dputs] at h; cases h; exact ⟨acc, rfl, rfl⟩
  | t :: r, acc, d, h => by
    unfold dputs at h
    split at h
    · rename_i heq; cases heq
    · rename_i k v r' heq
      cases heq
      cases k <;> simp only [dput, keyK, Option.map_some, Option.map_none] at h <;> first | skip | (split at h <;> simp at h; done)
      all_goals
        split at h
        · cases h
        · rename_i d' hd
          simp only [Option.ite_none_right_eq_some, Option.some.injEq] at hd
          obtain ⟨hl, hd⟩ := hd
          cases hd <;> (obtain ⟨kvs, h1, h2⟩ := dputs_K h; exact ⟨kvs, h1, by simp only [dputsK, keyK, hl, if_true]; exact h2⟩)
    · cases h
section
variable {Φ : String → List T → Src → Option (T × Src)} {X : Cx} {ke ve it c : E} {tg : Tg}
theorem dc_pure {σ : L2.St} {H : Hp} {Q : VK} {vs : List Nat} (hfv : ∀ i ∈ fvI it, i ∉ vs) (htg : ∀ i ∈ tgV tg, i ∈ vs) (h : tF X.K Φ (.dcomp ke ve tg it c vs) σ H Q) : tDc (tI X.K Φ it true) (gT X.K tg) (tB X.K Φ c) (tE X.K Φ ke false) (tE X.K Φ ve false) vs σ H Q := by
  obtain ⟨H0, g, own, env, s, t, s', r, e, q⟩ := h
  simp only [evE] at e
  cases e1 : (evE Φ it true env s).bind seqS with
  | none => rw [e1] at e; cases e
  | some pr =>
  obtain ⟨xs, s1⟩ := pr
  rw [e1] at e
  simp only [Option.ite_none_right_eq_some] at e
  obtain ⟨hfree, e⟩ := e
  let elt : List Slot → Src → Option (T × Src) := fun env1 s => match evE Φ ke false env1 s with
        | none => none
        | some (x, s2) => (match evE Φ ve false env1 s2 with
          | none => none
          | some (y, s3) => some (.tup [x, y], s3))
  have e : (match compL elt (evE Φ c true) tg (Gh.wipe env vs) xs s1 with
      | none => none
      | some (ps, s2) => (match dputs (.dK []) ps with
        | none => none
        | some d => some (d, s2))) = some (t, s') := e
  cases e2 : compL elt (evE Φ c true) tg (Gh.wipe env vs) xs s1 with
  | none => rw [e2] at e; cases e
  | some pr =>
  obtain ⟨fin, s2⟩ := pr
  rw [e2] at e
  simp only at e
  cases e3 : dputs (.dK []) fin with
  | none => rw [e3] at e; cases e
  | some d =>
  rw [e3] at e
  simp only [Option.some.injEq, Prod.mk.injEq] at e
  obtain ⟨rfl, rfl⟩ := e
  obtain ⟨kvsF, rfl, e4⟩ := dputs_K e3
  refine ⟨H0, g, own, env, s, xs, s1, r, e1, fun g1 J G Y H1 l1 r1 w hG hY D hD => ?_⟩
  have d0 := r1.g0 hD
  have dP := r1.gP hD
  have dO := r1.gO hD
  refine it_gen w (Qd := Q (.ref D)) (fun x H' Nx => gT X.K tg x (L2.wipe σ vs) H' fun σ2 H2 => L2.wipe σ2 vs = L2.wipe σ vs ∧ tB X.K Φ c σ2 H2 fun b H3 =>
    if b = true then tE X.K Φ ke false σ2 H3 fun y H4 => tE X.K Φ ve false σ2 H4 fun z H5 => ∃ kvs k, y = kV k ∧ H5 D = some (.dK kvs) ∧ kvs.length < sizeLine ∧ Nx (upd H5 D (.dK (putK kvs k z))) else Nx H3)
    (fun i H => ∃ g' si acc accT rest, Le g1 g' ∧ R X.K (H0.hold D (.dK acc)) g' own (Gh.wipe env vs) si (L2.wipe σ vs) H ∧ RepK X.K g' acc accT ∧ compL elt (evE Φ c true) tg (Gh.wipe env vs) (xs.drop i) si = some (rest, s2) ∧ dputsK accT rest = some kvsF) ?_ ?_ ?_ ?_
  · exact ⟨g1, s1, [], [], fin, Le.refl _, (r1.held (o := .dK []) hD True.intro).wipe vs, .nil, by simpa using e2, e4⟩
  · rintro i H hi ⟨g', si, acc, accT, rest, l', r', ha, hc, hf⟩
    exact hG _ g' own _ si _ H l' (Same.wipe r hfv) r'
  · rintro i x H H' hi ⟨g', si, acc, accT, rest, l', r', ha, hc, hf⟩ y
    obtain ⟨g2, t, hx, l2, r2, hr⟩ := hY i x _ g' own _ si _ H H' hi l' (Same.wipe r hfv) r' y
    have hd : xs.drop i = t :: xs.drop (i + 1) := by
      obtain ⟨h1, h2⟩ := List.getElem?_eq_some_iff.mp hx
      rw [← h2]
      exact List.drop_eq_getElem_cons h1
    rw [hd] at hc
    simp only [compL] at hc
    split at hc
    · cases hc
    · rename_i env1 ea
      refine ⟨_, g2, own, _, si, t, env1, r2, hr, ea, fun σ2 rr ww => ⟨?_, ?_⟩⟩
      · rw [ww vs htg]; exact wipe_sub fun i hi => hi
      · have w2 : L2.wipe σ2 vs = L2.wipe σ vs := by rw [ww vs htg]; exact wipe_sub fun i hi => hi
        have w3 : Gh.wipe env1 vs = Gh.wipe env vs := by rw [asgTg_wipe ea htg]; exact wipeE_sub fun i hi => hi
        split at hc
        · rename_i s3 e5
          refine ⟨_, g2, own, env1, si, true, s3, rr, e5, fun g3 H3 l3 r3 => ?_⟩
          simp only [if_true]
          split at hc
          · cases hc
          · rename_i py s4 e6
            split at hc
            · cases hc
            · rename_i ys s5 e7
              cases hc
              have e6 : (match evE Φ ke false env1 s3 with
                | none => none
                | some (x, s2) => (match evE Φ ve false env1 s2 with
                  | none => none
                  | some (y, s3) => some (T.tup [x, y], s3))) = some (py, s4) := e6
              cases f1 : evE Φ ke false env1 s3 with
              | none => rw [f1] at e6; cases e6
              | some pr =>
              obtain ⟨tk, s6⟩ := pr
              rw [f1] at e6
              simp only at e6
              cases f2 : evE Φ ve false env1 s6 with
              | none => rw [f2] at e6; cases e6
              | some pr =>
              obtain ⟨tv, s7⟩ := pr
              rw [f2] at e6
              simp only [Option.some.injEq, Prod.mk.injEq] at e6
              obtain ⟨rfl, rfl⟩ := e6
              simp only [dputsK] at hf
              cases f3 : keyK tk with
              | none => rw [f3] at hf; cases hf
              | some kx =>
              rw [f3] at hf
              simp only [Option.ite_none_right_eq_some] at hf
              obtain ⟨hl, hf⟩ := hf
              refine ⟨_, g3, own, env1, s3, tk, s6, r3, f1, fun g4 kv H4 l4 r4 p4 => ?_⟩
              refine ⟨_, g4, own, env1, s6, tv, _, r4, f2, fun g5 vv H5 l5 r5 p5 => ?_⟩
              have zz := r5.isHeld
              have ek : kv = kV (kk kx) := keyK_rep (show Rep _ _ _ _ from p4) f3
              refine ⟨acc, kk kx, ek, zz.1, by rw [ha.length, sizeLine_eq]; exact hl, g5, _, putK acc (kk kx) vv, put accT kx tv, ys, l'.trans (l2.trans (l3.trans (l4.trans l5))), ?_, put_rep kx (ha.mono (l2.trans (l3.trans (l4.trans l5)))) (show Rep _ _ _ _ from p5), e7, hf⟩
              have r6 := (r5.item (o' := .dK (putK acc (kk kx) vv)) d0 dP dO True.intro).wipe vs
              rw [w2, w3] at r6
              exact r6
        · rename_i s3 e5
          refine ⟨_, g2, own, env1, si, false, s3, rr, e5, fun g3 H3 l3 r3 => ?_⟩
          simp only [Bool.false_eq_true, if_false]
          refine ⟨g3, s3, acc, accT, rest, l'.trans (l2.trans l3), ?_, ha.mono (l2.trans l3), hc, hf⟩
          have r5 := r3.wipe vs
          rw [w2, w3] at r5
          exact r5
        · cases hc
  · rintro H ⟨g', si, acc, accT, rest, l', r', ha, hc, hf⟩
    rw [List.drop_length] at hc
    simp only [compL] at hc
    cases hc
    simp only [dputsK, Option.some.injEq] at hf
    subst hf
    have zz := r'.isHeld
    exact q g' (.ref D) H (l1.trans l') (r.unwipe (l1.trans l') hfree (r'.unhold d0 dP)) (.inr ⟨D, .dK acc, rfl, zz.1, .dK ha, zz.2.1, dO, d0, zz.2.2⟩)
end
end Gh
set_option linter.all false
set_option maxRecDepth 100000
set_option maxHeartbeats 1000000
namespace Gh
open PySem PySem.Spec PyProof.Rows L2

section
variable {X : Cx} {Φ : String → List T → Src → Option (T × Src)} {x y z : Expr} {a b c : E} {pos p : Pos} {m : Bool}
theorem f_lt {K : PySem.W.Frag} : CmF K (rI0 fun i j => .bl (decide (i < j))) (cmpT .lt) := by
  intro H0 g own env s σ H x y tx ty t Q r hx hy e q
  cases hx <;> cases hy <;> simp only [cmpT, Option.map_none, Option.map_some, reduceCtorEq, Option.some.injEq] at e
  subst e
  exact ⟨_, _, rfl, rfl, q.val r (.bl _) rfl⟩

/-! ### sorted(set(t)) -/
def rSset (K : PySem.W.Frag) (ta : TE) : TE := fun σ H Q => ta σ H fun x H1 => ∃ (l : Addr) (ns : List Int), x = .ref l ∧ SqT K H1 l (ns.map V.int) ∧ ns.length < 64 ∧ ∀ ns' : List Int, ns'.Pairwise (· < ·) → (∀ k, k ∈ ns' ↔ k ∈ ns) → ns'.length < 64 → ∀ q, H1 q = none → Q (.ref q) (upd H1 q (.lst (ns'.map V.int)))
theorem pe_sset {ta : TE} {p2 q2 : Pos} (hc : X.calm = true) (hg : Gl X "sorted") (hm : X.mg "sorted" = none) (hg2 : Gl X "set") (hm2 : X.mg "set" = none) (ha : PE X x ta) (na : starEach [x] X.env = (false, eval x X.env) :: starEach [] X.env) : PE X (.Call (.Name "sorted" p) [.Call (.Name "set" p2) [x] [] q2] [] pos) (rSset X.K ta) := by
  refine ⟨fun pins s σ H Q I h => ?_⟩
  refine Call_ (ld_blt I hg hm boot_sorted ?_)
  refine PyProof.Rows.callWith_builtin1 (PyProof.Rows.args_cons ?_ rfl) rfl rfl
  refine Call_ (ld_blt I hg2 hm2 PyProof.Rows.boot_set ?_)
  refine PyProof.Rows.callWith_type1 (PyProof.Rows.args_cons (thn (ha.run pins s σ H _ I h) fun v s1 ⟨y, H1, I1, r1, q1⟩ => PyProof.Rows.args_nil ?_) na) na rfl
  obtain ⟨l, ns, rfl, hq, h64, q1⟩ := q1
  cases r1
  obtain ⟨its, rv, pl, hz⟩ := I1.tuple hq
  refine call_set_tupI ns (I1.ok.hd hc) (show s1.heap.IsTuple l its.toArray from pl) (by simpa using ints_of_vals rv) (by unfold scanBound; omega) fun h' tk c R1 hcn k => ?_
  refine PyProof.Rows.args_nil ?_
  have I2 : Inv X pins σ H1 { s1 with heap := h', toks := tk } := I1.kept k
  refine sorted_set (s := { s1 with heap := h', toks := tk }) R1 (I2.ok.hd hc) (by omega) fun s' q out c' ns' k2 g o hp hgq hi hs hmem hl => ?_
  have hlen : (ns'.map V.int).length ≤ sizeLine := by rw [List.length_map, sizeLine_eq]; omega
  have hn : H1 q = none := I2.hok.fresh hp
  have J : Inv X pins σ (upd H1 q (.lst (ns'.map V.int))) { ({ s1 with heap := h', toks := tk } : Shared) with heap := s'.heap, gens := s'.gens, drawn := s'.drawn, toks := s'.toks } :=
    I2.call (ch := []) (Un.laid k2 hp hn) (I2.hok.laid k2 hp ⟨hlen, out.toList, c', vals_ints hi, hgq⟩) (by rw [g]; exact I2.bare) (fun _ z => nomatch z)
  have e : s' = { ({ s1 with heap := h', toks := tk } : Shared) with heap := s'.heap, gens := s'.gens, drawn := s'.drawn, toks := s'.toks } := by
    cases s'
    cases s1
    cases o
    rfl
  rw [e]
  exact ⟨.ref q, _, J, rfl, q1 ns' hs (fun k => by rw [hmem k, decide_eq_true_eq]) (by omega) q hn⟩
theorem strict_ext : ∀ {l m : List Int}, l.Pairwise (· < ·) → m.Pairwise (· < ·) → (∀ k, k ∈ l ↔ k ∈ m) → l = m
  | [], [], _, _, _ => rfl
  | [], y :: m, _, _, h => by have := (h y).mpr List.mem_cons_self; cases this
  | x :: l, [], _, _, h => by have := (h x).mp List.mem_cons_self; cases this
  | x :: l, y :: m, h1, h2, h => by
    obtain ⟨a1, a2⟩ := List.pairwise_cons.mp h1
    obtain ⟨b1, b2⟩ := List.pairwise_cons.mp h2
    have e : x = y := by
      rcases List.mem_cons.mp ((h x).mp List.mem_cons_self) with e | e
      · exact e
      · rcases List.mem_cons.mp ((h y).mpr List.mem_cons_self) with f | f
        · exact f.symm
        · have := a1 y f; have := b1 x e; omega
    subst e
    have hh : ∀ k, k ∈ l ↔ k ∈ m := fun k => by
      constructor
      · intro hk
        rcases List.mem_cons.mp ((h k).mp (List.mem_cons_of_mem _ hk)) with f | f
        · have := a1 k hk; omega
        · exact f
      · intro hk
        rcases List.mem_cons.mp ((h k).mpr (List.mem_cons_of_mem _ hk)) with f | f
        · have := b1 k hk; omega
        · exact f
    rw [strict_ext a2 b2 hh]
theorem ddI_mem : ∀ {l : List Int} {k : Int}, k ∈ ddI l ↔ k ∈ l
  | [], k => Iff.rfl
  | x :: l, k => by
    unfold ddI
    by_cases h : x ∈ l
    · rw [if_pos h, ddI_mem, List.mem_cons]
      exact ⟨.inr, fun z => z.elim (fun e => e ▸ h) id⟩
    · rw [if_neg h, List.mem_cons, List.mem_cons, ddI_mem]
theorem ddI_nodup : ∀ (l : List Int), (ddI l).Nodup
  | [] => List.nodup_nil
  | x :: l => by
    unfold ddI
    by_cases h : x ∈ l
    · rw [if_pos h]; exact ddI_nodup l
    · rw [if_neg h]; exact List.nodup_cons.mpr ⟨fun z => h (ddI_mem.mp z), ddI_nodup l⟩
theorem sset_eq {ns ns' : List Int} (h1 : ns'.Pairwise (· < ·)) (h2 : ∀ k, k ∈ ns' ↔ k ∈ ns) : ns' = (ddI ns).mergeSort fun a b => decide (a ≤ b) := by
  refine strict_ext h1 (lt_of_le_nodup _ ?_ ?_) fun k => ?_
  · have z := List.pairwise_mergeSort (le := fun (a b : Int) => decide (a ≤ b)) (fun a b c h1 h2 => by simp at *; omega) (fun a b => by simp; omega) (ddI ns)
    exact z.imp fun h => by simpa using h
  · exact (List.mergeSort_perm _ _).nodup_iff.mpr (ddI_nodup ns)
  · rw [h2, (List.mergeSort_perm _ _).mem_iff, ddI_mem]
theorem s_sset {p2 q2 : Pos} (hc : X.calm = true) (hg : Gl X "sorted") (hm : X.mg "sorted" = none) (hg2 : Gl X "set") (hm2 : X.mg "set" = none) (ha : PE X x (tE X.K Φ a true)) (hs : isStar x = false) : PE X (.Call (.Name "sorted" p) [.Call (.Name "set" p2) [x] [] q2] [] pos) (tF X.K Φ (.bi .sset a)) :=
  (pe_sset hc hg hm hg2 hm2 ha (starEach_cons hs)).imp fun σ H Q ⟨H0, g, own, env, s, t, s', r, e, q⟩ => by
    simp only [evE] at e
    split at e
    · cases e
    · rename_i tx s1 e1
      simp only [Option.map_eq_some_iff] at e
      obtain ⟨t', e3, e4⟩ := e
      cases e4
      refine ⟨H0, g, own, env, s, tx, _, r, e1, fun g1 v H1 l1 r1 p1 => ?_⟩
      have hv := r1.val (show ValP _ _ _ _ _ _ _ from p1)
      cases hv <;> simp only [biT, reduceCtorEq, Option.bind_eq_some_iff, Option.ite_none_right_eq_some, Option.some.injEq] at e3
      rename_i h1 h2
      obtain ⟨ns, e5, h64, rfl⟩ := e3
      have ev := h2.intsOf e5
      subst ev
      refine ⟨_, ns, rfl, r1.st h1, h64, fun ns' w1 w2 w3 pq hq => ?_⟩
      have q' : PostF X.K H0 own env s' σ (.lst (((ddI ns).mergeSort fun a b => decide (a ≤ b)).map .int)) Q g1 := fun g2 v H2 l2 r2 f2 => q g2 v H2 (l1.trans l2) r2 f2
      refine q'.made r1 hq (.lst ?_)
      rw [sset_eq w1 w2]
      exact Reps.ints _
/-! ### tuples that are plain objects -/
theorem pe_tupP {k : Nat} : PE X (.Tuple [] k pos) (fun _ H Q => ∀ q ob, H q = none → ob.dict = none → Q (.ref q) (upd H q (.frz ob (.tup [])))) := by
  refine ⟨fun pins s σ H Q I hq => ?_⟩
  refine wpAny_Tuple_spliced (thn ((pa_nil (X := X)).run pos pins s σ H (fun vs H1 => vs = [] ∧ H1 = H) I ⟨rfl, rfl⟩) fun us s1 ⟨xs, H1, I1, r, z1, z2⟩ => ⟨by rw [← r.length, z1]; exact Nat.zero_le _, ?_⟩)
  subst z1 z2
  cases r
  have hf : H1 s1.heap.objs.size = none := I1.hok.fresh (Nat.le_refl _)
  exact ⟨.ref s1.heap.objs.size, _, I1.laid (t' := s1.toks) (fun b u e => Heap.get?_push_of_some _ e) (Nat.le_refl _) (show ObjOk X.prog X.w _ _ _ (.frz _ (.tup [])) from ⟨Heap.get?_push_size _ rfl, Nat.zero_le _, [], .nil, ⟨_, Heap.get?_push_size _ rfl, rfl, _, rfl⟩⟩), rfl, hq _ _ hf rfl⟩
theorem PostF.ptup {K : PySem.W.Frag} {H0 : Fm} {g : Gs} {own : Own} {env : List Slot} {s : Src} {σ : L2.St} {H : Hp} {ts : List T} {Q : VK} (h : PostF K H0 own env s σ (.ptup ts) Q g) (r : R K H0 g own env s σ H) {q : Addr} {ob : Obj} {xs : List V} (hq : H q = none) (hd : ob.dict = none) (ht : Reps K g xs ts) : Q (.ref q) (upd H q (.frz ob (.tup xs))) :=
  h (g.add q (.frz ob (.tup xs))) _ _ (Le.add (r.gS hq)) (r.new hq) (.inl ⟨rfl, .ptup (show upd g.S q _ q = _ from upd_same) hd (ht.mono (Le.add (r.gS hq)))⟩)
theorem s_ptup0 {k : Nat} : PE X (.Tuple [] k pos) (tF X.K Φ .ptup0) := (pe_tupP (X := X)).imp fun σ H Q ⟨H0, g, own, env, s, t, s', r, e, q⟩ pq ob hq hd => by
  simp only [evE] at e
  cases e
  have q' : PostF X.K H0 own env s σ (.ptup []) Q g := q
  exact q'.ptup r hq hd .nil
theorem cr_tupPl : CallR X (.type "tuple") (rTupPl X.K) := by
  intro pins s σ H xs us Q I r h
  obtain ⟨pq, ys, rfl, hq, q⟩ := h
  obtain ⟨u, rfl, rx⟩ := vals1 r
  cases rx
  obtain ⟨its, r', pl, hz⟩ := I.list hq
  have hlen := r'.length
  refine call_tuple_list pl.isList (fun h' kp => ?_) (by simp only [List.size_toArray] <;> omega)
  have I1 : Inv X pins σ H { s with heap := h' } := I.kept (t' := s.toks) kp
  exact ⟨.ref h'.objs.size, _, I1.laid (t' := s.toks) (o := .frz { cls := .type "tuple", data := .seq its.toArray } (.tup ys)) (fun b o e => Heap.get?_push_of_some _ e) (Nat.le_refl _) ⟨Heap.get?_push_size _ rfl, hz, its, r', IsTup.new _ _⟩, rfl, q _ _ (I1.hok.fresh (Nat.le_refl _)) rfl⟩
theorem f_ptuple {K : PySem.W.Frag} : CallF K (rTupPl K) (biT .ptuple) := by
  intro H0 g own env s σ H x tx t Q r hx e q
  cases hx <;> simp only [biT, Option.some.injEq, reduceCtorEq] at e
  rename_i h1 h2
  subst e
  exact ⟨_, _, rfl, SqL.of h1, fun l ob hl hd => q.ptup r hl hd h2⟩
/-! ### list(range(..)), range(..) in a name -/
theorem rgV_rep {K : PySem.W.Frag} {g : Gs} {lo hi : Int} : Reps K g (rgV lo hi) (rgInts lo (hi - lo).toNat) := by
  have e1 : rgV lo hi = ((List.range (hi - lo).toNat).map fun (k : Nat) => (lo + (k : Int))).map V.int := by
    unfold rgV
    simp [List.map_map]
  have e2 : rgInts lo (hi - lo).toNat = ((List.range (hi - lo).toNat).map fun (k : Nat) => (lo + (k : Int))).map T.int := by
    unfold rgInts
    simp [List.map_map]
  rw [e1, e2]
  exact Reps.ints _
theorem rangeT_1 {t : T} {lo hi : Int} (e : rangeT [t] = some (.rng lo hi)) : t = .int hi ∧ lo = 0 ∧ 0 ≤ hi ∧ hi ≤ 1000000 := by
  cases t <;> simp [rangeT] at e
  obtain ⟨h, rfl, rfl⟩ := e
  exact ⟨rfl, rfl, h.1, h.2⟩
theorem rangeT_2 {t u : T} {lo hi : Int} (e : rangeT [t, u] = some (.rng lo hi)) : t = .int lo ∧ u = .int hi ∧ -1000000 ≤ lo ∧ lo ≤ 1000000 ∧ -1000000 ≤ hi ∧ hi ≤ 1000000 := by
  cases t <;> cases u <;> simp [rangeT] at e
  obtain ⟨h, rfl, rfl⟩ := e
  exact ⟨rfl, rfl, h.1, h.2.1, h.2.2.1, h.2.2.2⟩
theorem rangeT_rng {ts : List T} {t : T} (e : rangeT ts = some t) : ∃ lo hi, t = .rng lo hi := by
  unfold rangeT at e
  split at e
  · split at e
    · cases e; exact ⟨_, _, rfl⟩
    · cases e
  · split at e
    · cases e; exact ⟨_, _, rfl⟩
    · cases e
  · cases e
theorem s_lrange1 {p2 q2 : Pos} (hc : X.calm = true) (hg : Gl X "list") (hm : X.mg "list" = none) (hg2 : Gl X "range") (hm2 : X.mg "range" = none) (ha : PE X x (tE X.K Φ a true)) (hs : isStar x = false) : PE X (.Call (.Name "list" p) [.Call (.Name "range" p2) [x] [] q2] [] pos) (tF X.K Φ (.lrange [a])) :=
  (pe_listRg hc hg hm (prg_1 hg2 hm2 ha (starEach_cons hs)) (starEach_cons rfl)).imp fun σ H Q ⟨H0, g, own, env, s, t, s', r, e, q⟩ => by
    simp only [evE, evTs] at e
    cases e1 : evE Φ a true env s with
    | none => rw [e1] at e; cases e
    | some pr =>
      obtain ⟨tx, s1⟩ := pr
      rw [e1] at e
      simp only at e
      split at e
      · rename_i lo hi he
        cases e
        obtain ⟨rfl, rfl, h1, h2⟩ := rangeT_1 he
        refine ⟨H0, g, own, env, s, _, _, r, e1, fun g1 v H1 l1 r1 p1 => ?_⟩
        have hv := r1.val (show ValP _ _ _ _ _ _ _ from p1)
        cases hv
        refine ⟨hi, rfl, ⟨by omega, by omega, by omega, by omega, by omega⟩, fun pq hq => ?_⟩
        have q' : PostF X.K H0 own env s' σ (.lst (rgInts 0 (hi - 0).toNat)) Q g1 := fun g2 v H2 l2 r2 f2 => q g2 v H2 (l1.trans l2) r2 f2
        exact q'.made r1 hq (.lst rgV_rep)
      · cases e
theorem s_rngV1 (hb : ∀ t, PA X [x] t → PE X (.Call (.Name "range" p) [x] [] pos) (tCB (fun vs H Q => ∃ j, vs = [V.int j] ∧ ∀ p, H p = none → Q (.ref p) (upd H p (.rng 0 j))) t)) (ha : PE X x (tE X.K Φ a true)) (hs : isStar x = false) : PE X (.Call (.Name "range" p) [x] [] pos) (tF X.K Φ (.range [a])) :=
  (hb _ (pa_cons ha pa_nil (starEach_cons hs))).imp fun σ H Q ⟨H0, g, own, env, s, t, s', r, e, q⟩ => by
    simp only [evE, evTs] at e
    cases e1 : evE Φ a true env s with
    | none => rw [e1] at e; cases e
    | some pr =>
      obtain ⟨tx, s1⟩ := pr
      rw [e1] at e
      simp only [Option.map_eq_some_iff] at e
      obtain ⟨t', e3, e4⟩ := e
      cases e4
      obtain ⟨lo, hi, rfl⟩ := rangeT_rng e3
      obtain ⟨rfl, rfl, h1, h2⟩ := rangeT_1 e3
      refine ⟨H0, g, own, env, s, _, _, r, e1, fun g1 v H1 l1 r1 p1 => ?_⟩
      have hv := r1.val (show ValP _ _ _ _ _ _ _ from p1)
      cases hv
      refine ⟨hi, rfl, fun pq hq => ?_⟩
      exact q (g1.add pq (.rng 0 hi)) _ _ (l1.trans (Le.add (r1.gS hq))) (r1.new hq) (.inl ⟨rfl, .rng (show upd g1.S pq _ pq = _ from upd_same)⟩)
end
end Gh
set_option linter.all false
set_option maxRecDepth 100000
set_option maxHeartbeats 1000000
namespace Gh
open PySem PySem.Spec PyProof.Rows L2

section
variable {K : PySem.W.Frag} {H0 : Fm} {g : Gs} {own : Own} {env : List Slot} {s : Src} {σ : L2.St} {H : Hp}
/-- the frame while slot i's dict at p is walked -/
def Fm.lock (F : Fm) (i : Nat) (p : Addr) (o : HO) : Fm := ⟨upd F.H0 p o, fun a => a = p ∨ F.P a, fun j => if j = i then some p else if F.lkS j = some p then none else F.lkS j⟩
theorem R.lock (r : R K H0 g own env s σ H) {i : Nat} {p : Addr} {od : Obj} {kvs : List (Key × V)} {ts : List (Gh.K × T)} (he : env[i]? = some (.ow (.dK ts))) (hσ : σ[i]? = some (some (.ref p))) (ow : own p = some i) (hp : H p = some (.dK kvs)) (hr : RepK K g kvs ts) :
    R K (H0.lock i p (.frz od (.dK kvs))) g (setOwn own p none) (env.set i (.lk (.dK ts))) s σ (upd H p (.frz od (.dK kvs))) := by
  have hl : i < env.length := (List.getElem?_eq_some_iff.mp he).1
  obtain ⟨gp, h0, _, _, _⟩ := r.own_ p i ow
  have lp : ¬ g.isL p := fun z => by rw [(r.locS p z).2] at ow; cases ow
  have pp : ¬ H0.P p := fun z => by obtain ⟨_, o', e, _⟩ := r.prot p z; rw [h0] at e; cases e
  have ow' : ∀ a j, setOwn own p none a = some j → own a = some j ∧ a ≠ p := fun a j e => by
    unfold setOwn at e
    split at e
    · cases e
    · rename_i z; exact ⟨e, z⟩
  refine ⟨by rw [List.length_set]; exact r.len, fun a u e => ?_, fun a u e nl => ?_, fun a ha => ?_, fun a ha => ?_, ?_, fun a ha => ⟨(r.locS a ha).1, ?_⟩, fun a j e => ?_, fun j v y e1 e2 => ?_, fun j t e => ?_⟩
  · rw [upd_ne (ne_of_none e gp)]; exact r.sub a u e
  · have e' : upd H0.H0 p (.frz od (.dK kvs)) a = some u := e
    by_cases z : a = p
    · subst z; rw [upd_same] at e' ⊢; exact e'
    · rw [upd_ne z] at e' ⊢; exact r.keep a u e' nl
  · rcases ha with z | z
    · subst z; exact ⟨gp, _, upd_same, True.intro⟩
    · obtain ⟨h1, u, h2, h3⟩ := r.prot a z
      exact ⟨h1, u, (by show upd H0.H0 p _ a = _; rw [upd_ne (ne_of_none h2 h0)]; exact h2), h3⟩
  · rcases ha with z | z
    · rw [z]; exact lp
    · exact r.prL a z
  · have q := r.src
    unfold SrcR at q ⊢
    split at q
    · trivial
    · rename_i a c st e
      have na : a ≠ p := fun z => lp ⟨a, c, e, .inl z.symm⟩
      have nc : c ≠ p := fun z => lp ⟨a, c, e, .inr z.symm⟩
      exact ⟨by rw [upd_ne na]; exact q.1, by rw [upd_ne nc]; exact q.2.1, q.2.2⟩
    · cases q
  · unfold setOwn
    split
    · rfl
    · exact (r.locS a ha).2
  · obtain ⟨e1, z⟩ := ow' a j e
    obtain ⟨h1, h2, u, h3, h4⟩ := r.own_ a j e1
    exact ⟨h1, by show upd H0.H0 p _ a = none; rw [upd_ne z]; exact h2, u, by rw [upd_ne z]; exact h3, h4⟩
  · rw [List.getElem?_set] at e2
    by_cases hj : i = j
    · subst hj
      rw [if_pos rfl, if_pos hl] at e2
      cases e2; exact .lk
    · rw [if_neg hj] at e2
      have q := r.slot j v y e1 e2
      have ne : ∀ a, own a = some j → a ≠ p := fun a e z => by rw [z, ow] at e; exact hj (Option.some.inj e)
      have so : ∀ a, own a = some j → setOwn own p none a = some j := fun a e => by unfold setOwn; rw [if_neg (ne a e)]; exact e
      cases q with
      | un => exact .un
      | sh z => exact .sh z
      | ow f1 f2 f3 => exact .ow (so _ f1) (by rw [upd_ne (ne _ f1)]; exact f2) f3
      | lk => exact .lk
      | ow2 f1 f2 f3 f4 =>
        refine .ow2 (so _ f1) (by rw [upd_ne (ne _ f1)]; exact f2) f3 ?_
        clear f2 f3 e2
        induction f4 with
        | nil => exact .nil
        | cons a b c _ ih => exact .cons (so _ a) (by rw [upd_ne (ne _ a)]; exact b) c ih
  · rw [List.getElem?_set] at e
    by_cases hj : i = j
    · subst hj
      rw [if_pos rfl, if_pos hl] at e
      cases e
      exact ⟨p, od, kvs, ts, by show (if i = i then _ else _) = _; rw [if_pos rfl], hσ, rfl, .inl rfl, upd_same, hr⟩
    · rw [if_neg hj] at e
      obtain ⟨a, u, kvs', ts', h1, h2, h3, h4, h5, h6⟩ := r.lkd j t e
      have na : a ≠ p := fun z => pp (z ▸ h4)
      refine ⟨a, u, kvs', ts', ?_, h2, h3, .inr h4, by show upd H0.H0 p _ a = _; rw [upd_ne na]; exact h5, h6⟩
      show (if j = i then _ else _) = _
      rw [if_neg (fun z => hj z.symm), h1, if_neg (fun z => na (Option.some.inj z))]
/-- the walk is over; slot i forgotten -/
theorem R.unlock (r0 : H0.H0 p = none ∧ ¬ H0.P p) {i : Nat} {o : HO} {o' : HO} (r : R K (H0.lock i p o) g own env s σ H) : H p = some o ∧ g.S p = none ∧ own p = none ∧ ¬ g.isL p ∧ R K H0 g own (env.set i .un) s σ (upd H p o') := by
  obtain ⟨h0, pp⟩ := r0
  have hP : (H0.lock i p o).P p := .inl rfl
  have gp := (r.prot p hP).1
  have lp := r.prL p hP
  have e0 : (H0.lock i p o).H0 p = some o := upd_same
  have hp := r.keep p o e0 lp
  have op : own p = none := by
    cases q : own p with
    | none => rfl
    | some j =>
      have := (r.own_ p j q).2.1
      rw [e0] at this; cases this
  have ne : ∀ a j, own a = some j → a ≠ p := fun a j e z => by rw [z, op] at e; cases e
  refine ⟨hp, gp, op, lp, by rw [List.length_set]; exact r.len, fun a u e => ?_, fun a u e nl => ?_, fun a ha => ?_, fun a ha => r.prL a (.inr ha), ?_, r.locS, fun a j e => ?_, fun j v y e1 e2 => ?_, fun j t e => ?_⟩
  · rw [upd_ne (ne_of_none e gp)]; exact r.sub a u e
  · have na := ne_of_none e h0
    rw [upd_ne na]
    exact r.keep a u (by show upd H0.H0 p o a = _; rw [upd_ne na]; exact e) nl
  · obtain ⟨h1, u, h2, h3⟩ := r.prot a (.inr ha)
    have na : a ≠ p := fun z => pp (z ▸ ha)
    have h2' : upd H0.H0 p o a = some u := h2
    rw [upd_ne na] at h2'
    exact ⟨h1, u, h2', h3⟩
  · have q := r.src
    unfold SrcR at q ⊢
    split at q
    · trivial
    · rename_i a c st e
      have na : a ≠ p := fun z => lp ⟨a, c, e, .inl z.symm⟩
      have nc : c ≠ p := fun z => lp ⟨a, c, e, .inr z.symm⟩
      exact ⟨by rw [upd_ne na]; exact q.1, by rw [upd_ne nc]; exact q.2.1, q.2.2⟩
    · cases q
  · obtain ⟨h1, h2, u, h3, h4⟩ := r.own_ a j e
    have na := ne a j e
    have h2' : upd H0.H0 p o a = none := h2
    rw [upd_ne na] at h2'
    exact ⟨h1, h2', u, by rw [upd_ne na]; exact h3, h4⟩
  · rw [List.getElem?_set] at e2
    by_cases hj : i = j
    · subst hj
      rw [if_pos rfl] at e2
      split at e2
      · cases e2; exact .un
      · cases e2
    · rw [if_neg hj] at e2
      exact (r.slot j v y e1 e2).keeps (Le.refl g) fun a k u e h => by rw [upd_ne (ne a k e)]; exact h
  · rw [List.getElem?_set] at e
    by_cases hj : i = j
    · subst hj
      rw [if_pos rfl] at e
      split at e
      · cases e
      · cases e
    · rw [if_neg hj] at e
      obtain ⟨a, u, kvs', ts', h1, h2, h3, h4, h5, h6⟩ := r.lkd j t e
      have h1' : (if j = i then some p else if H0.lkS j = some p then none else H0.lkS j) = some a := h1
      rw [if_neg (fun z => hj z.symm)] at h1'
      split at h1'
      · cases h1'
      · rename_i hn
        have na : a ≠ p := fun z => hn (z ▸ h1')
        have h5' : upd H0.H0 p o a = some (.frz u (.dK kvs')) := h5
        rw [upd_ne na] at h5'
        exact ⟨a, u, kvs', ts', h1', h2, h3, h4.resolve_left na, h5', h6⟩
end
theorem RepK.get {K : PySem.W.Frag} {g : Gs} : ∀ {kvs : List (Key × V)} {ts : List (Gh.K × T)} {i : Nat} {q : Key × V}, RepK K g kvs ts → kvs[i]? = some q → ∃ k t, ts[i]? = some (k, t) ∧ q.1 = kk k
  | _, _, _, _, .nil, e => by simp at e
  | _, _, 0, _, .cons r _, e => by simp at e; subst e; exact ⟨_, _, rfl, rfl⟩
  | _, _, i + 1, _, .cons _ b, e => by
    obtain ⟨k, t, h1, h2⟩ := RepK.get (i := i) b (by simpa using e)
    exact ⟨k, t, by simpa using h1, h2⟩
section
variable {X : Cx} {Φ : String → List T → Src → Option (T × Src)} {C : Ctx} {k : Nat} {x y z : Expr} {a b c : E} {pos p : Pos} {m : Bool} {tg : Tg} {tgx : Expr}
theorem p_forK {n : Str} {body : List Stmt} {sb : List S} {i : Nat} (hxe : X.xe = fun _ _ => False) (hc : X.calm = true) (hi : PE X (.Name n p) (tVar i)) (hg : PG X tgx (gT X.K tg)) (hb : PSs X body (tSts X.K Φ sb)) : PS X (.For tgx (.Name n p) body [] pos) (tSt X.K Φ (.forK tg i sb)) :=
  (ps_lock (ps_for (by rw [hxe]; exact PassesOwn.never) hc (pi_keys hi) hg hb (fun _ => rfl))).imp fun D σ H ⟨H0, g, own, env, s, o, env', s', r, e, q⟩ => by
  simp only [evS] at e
  cases hx : env[i]? with
  | none => rw [hx] at e; cases e
  | some sl =>
  rw [hx] at e
  simp only [Option.bind_some] at e
  have hs : ∃ ts, sl = .ow (.dK ts) := by
    cases sl with
    | ow t => cases t <;> first | exact ⟨_, rfl⟩ | (simp [lkS] at e; done)
    | _ => simp [lkS] at e
  obtain ⟨ts, rfl⟩ := hs
  simp only [lkS] at e
  obtain ⟨d, oo, hσ, how, hd, htop⟩ := r.ownAt hx
  cases htop with
  | @dK kvs _ hrep =>
  obtain ⟨gp, h0, _, _, _⟩ := r.own_ d i how
  have pp : ¬ H0.P d := fun z => by obtain ⟨_, o', e, _⟩ := r.prot d z; rw [h0] at e; cases e
  refine ⟨d, .dK kvs, hd, True.intro, fun od => ?_⟩
  have rl := r.lock (od := od) hx hσ how hd hrep
  refine ⟨.ref d, hσ, d, od, rfl, .inl ⟨kvs, upd_same, ?_⟩⟩
  have kd : ∀ {g' own' ei si σ' H'}, R X.K (H0.lock i d (.frz od (.dK kvs))) g' own' ei si σ' H' → H' d = some (.frz od (.dK kvs)) := fun {g' own' ei si σ' H'} r' => r'.keep d _ (show upd H0.H0 d _ d = _ from upd_same) (r'.prL d (.inl rfl))
  cases e2 : forL (evSs Φ sb) tg (ts.map fun kv => ofK kv.1) (env.set i (.lk (.dK ts))) s with
  | none => rw [e2] at e; cases e
  | some res =>
  obtain ⟨o2, env2, s2⟩ := res
  rw [e2] at e
  refine for_it walk_keys (fun n σ H => ∃ g' own' ei si, Le g g' ∧ R X.K (H0.lock i d (.frz od (.dK kvs))) g' own' ei si σ H ∧ forL (evSs Φ sb) tg ((ts.map fun kv => ofK kv.1).drop n) ei si = some (o2, env2, s2)) ?_ ?_ ?_ ?_
  · exact ⟨g, _, _, s, Le.refl _, rl, by simpa using e2⟩
  · rintro n σ' H' hn ⟨g', own', ei, si, l', r', he⟩
    exact kd r'
  · rintro n xv σ' H' H'' hn ⟨g', own', ei, si, l', r', he⟩ ⟨rfl, key, vv, hk, rfl⟩
    obtain ⟨kk', tt, hk1, hk2⟩ := hrep.get hk
    simp only at hk2
    subst hk2
    have hd1 : (ts.map fun kv => ofK kv.1).drop n = ofK kk' :: (ts.map fun kv => ofK kv.1).drop (n + 1) := by
      have h1 : (ts.map fun kv => ofK kv.1)[n]? = some (ofK kk') := by simp [hk1]
      obtain ⟨h2, h3⟩ := List.getElem?_eq_some_iff.mp h1
      rw [← h3]
      exact List.drop_eq_getElem_cons h2
    rw [hd1] at he
    simp only [forL] at he
    split at he
    · cases he
    · rename_i e3 ea
      refine ⟨_, g', own', ei, si, ofK kk', e3, r', rep_ofK kk', ea, fun σ3 r3 _ => ?_⟩
      split at he
      · cases he
      · rename_i e4 s4 hbd
        exact ⟨_, g', own', e3, si, .nx, e4, s4, r3, hbd, fun g4 own4 σ4 H4 l4 r4 => ⟨g4, own4, e4, s4, l'.trans l4, r4, he⟩⟩
      · rename_i e4 s4 hbd
        exact ⟨_, g', own', e3, si, .ct, e4, s4, r3, hbd, fun g4 own4 σ4 H4 l4 r4 => ⟨g4, own4, e4, s4, l'.trans l4, r4, he⟩⟩
      · rename_i e4 s4 hbd
        cases he
        refine ⟨_, g', own', e3, si, .bk, _, _, r3, hbd, fun g4 own4 σ4 H4 l4 r4 => ⟨kd r4, ?_⟩⟩
        simp only at e
        split at e
        · rename_i dd hlk
          cases e
          obtain ⟨ad, u, kvs', ts', h1, h2, rfl, h4, h5, h6⟩ := r4.lkd i dd hlk
          have ha : ad = d := by
            have h1' : (if i = i then some d else _) = some ad := h1
            rw [if_pos rfl] at h1'
            exact (Option.some.inj h1').symm
          subst ha
          have h5' : upd H0.H0 ad (.frz od (.dK kvs)) ad = some (.frz u (.dK kvs')) := h5
          rw [upd_same] at h5'
          cases h5'
          obtain ⟨_, gp', op', lp', r5⟩ := R.unlock (o' := .dK kvs) ⟨h0, pp⟩ r4
          have r6 := r5.take (i := i) upd_same (.dK h6) gp' op' h0 lp'
          rw [List.set_set] at r6
          have es : σ4.set i (some (.ref ad)) = σ4 := by
            apply List.ext_getElem?
            intro j
            rw [List.getElem?_set]
            by_cases hj : i = j
            · subst hj
              rw [if_pos rfl, if_pos (List.getElem?_eq_some_iff.mp h2).1]; exact h2.symm
            · rw [if_neg hj]
          rw [es] at r6
          exact q g4 _ σ4 _ (l'.trans l4) r6
        · cases e
      · rename_i t4 e4 s4 hbd
        cases he
        refine ⟨_, g', own', e3, si, .rt t4, _, _, r3, hbd, fun g4 own4 σ4 v4 H4 l4 r4 p4 => ⟨kd r4, ?_⟩⟩
        simp only at e
        cases e
        obtain ⟨_, gp', op', lp', r5⟩ := R.unlock (o' := .dK kvs) ⟨h0, pp⟩ r4
        exact q g4 _ σ4 v4 _ (l'.trans l4) r5 p4
  · rintro σ4 H4 ⟨g4, own4, ei, si, l4, r4, he⟩
    rw [show kvs.length = (ts.map fun kv => ofK kv.1).length by rw [List.length_map, hrep.length], List.drop_length] at he
    simp only [forL] at he
    cases he
    refine ⟨kd r4, ?_⟩
    simp only at e
    split at e
    · rename_i dd hlk
      cases e
      obtain ⟨ad, u, kvs', ts', h1, h2, rfl, h4, h5, h6⟩ := r4.lkd i dd hlk
      have ha : ad = d := by
        have h1' : (if i = i then some d else _) = some ad := h1
        rw [if_pos rfl] at h1'
        exact (Option.some.inj h1').symm
      subst ha
      have h5' : upd H0.H0 ad (.frz od (.dK kvs)) ad = some (.frz u (.dK kvs')) := h5
      rw [upd_same] at h5'
      cases h5'
      obtain ⟨_, gp', op', lp', r5⟩ := R.unlock (o' := .dK kvs) ⟨h0, pp⟩ r4
      have r6 := r5.take (i := i) upd_same (.dK h6) gp' op' h0 lp'
      rw [List.set_set] at r6
      have es : σ4.set i (some (.ref ad)) = σ4 := by
        apply List.ext_getElem?
        intro j
        rw [List.getElem?_set]
        by_cases hj : i = j
        · subst hj
          rw [if_pos rfl, if_pos (List.getElem?_eq_some_iff.mp h2).1]; exact h2.symm
        · rw [if_neg hj]
      rw [es] at r6
      exact q g4 _ σ4 _ l4 r6
    · cases e
end
end Gh
set_option linter.all false
set_option maxRecDepth 100000
set_option maxHeartbeats 1000000
namespace Gh
open PySem PySem.Spec PyProof.Rows L2

/-! ### f(..) with one's own containers lent; the answer is plain -/
section
variable {K : PySem.W.Frag} {H0 : Fm} {g : Gs} {own : Own} {env : List Slot} {s : Src} {σ : L2.St} {H : Hp}
/-- some slots shared for a while -/
theorem R.lends : ∀ (is : List Nat) {g : Gs} {own : Own} {env : List Slot}, R K H0 g own env s σ H → ∃ (g' : Gs) (own' : Own) (env' : List Slot), Le g g' ∧ R K H0 g' own' env' s σ H ∧ (∀ a j, own a = some j → own' a = some j ∨ ∃ o, g'.S a = some o ∧ H a = some o) ∧
    (∀ (j : Nat) (t : T), env[j]? = some (Slot.sh t) → env'[j]? = some (Slot.sh t)) ∧ (∀ (j : Nat) (t : T), env[j]? = some (Slot.ow t) → env'[j]? = some (Slot.ow t) ∨ env'[j]? = some (Slot.sh t)) ∧ ∀ j ∈ is, ∀ t, env[j]? = some (Slot.ow t) → env'[j]? = some (Slot.sh t)
  | [], g, own, env, r => ⟨g, own, env, Le.refl g, r, fun a j e => .inl e, fun j t e => e, fun j t e => .inl e, fun j hj => (by cases hj)⟩
  | i :: is, g, own, env, r => by
    by_cases hi : ∃ t, env[i]? = some (.ow t)
    · obtain ⟨t, ht⟩ := hi
      obtain ⟨g1, own1, l1, r1, k1⟩ := r.shareS1 ht
      have hl : i < env.length := (List.getElem?_eq_some_iff.mp ht).1
      obtain ⟨g2, own2, env2, l2, r2, k2, k3, k4, k5⟩ := R.lends is r1
      have at_i : (env.set i (.sh t))[i]? = some (.sh t) := by rw [List.getElem?_set, if_pos rfl, if_pos hl]
      refine ⟨g2, own2, env2, l1.trans l2, r2, fun a j e => ?_, fun j t' e => ?_, fun j t' e => ?_, fun j hj t' e => ?_⟩
      · rcases k1 a j e with h | ⟨o, h1, h2⟩
        · exact k2 a j h
        · exact .inr ⟨o, l2.S _ _ h1, h2⟩
      · refine k3 j t' ?_
        rw [List.getElem?_set]
        by_cases hj : i = j
        · subst hj; rw [ht] at e; cases e
        · rw [if_neg hj]; exact e
      · by_cases hj : i = j
        · subst hj; rw [ht] at e; cases e; exact .inr (k3 i t at_i)
        · exact k4 j t' (by rw [List.getElem?_set, if_neg hj]; exact e)
      · by_cases hj' : i = j
        · subst hj'; rw [ht] at e; cases e; exact k3 i t at_i
        · rcases List.mem_cons.mp hj with z | z
          · exact absurd z.symm hj'
          · exact k5 j z t' (by rw [List.getElem?_set, if_neg hj']; exact e)
    · obtain ⟨g2, own2, env2, l2, r2, k2, k3, k4, k5⟩ := R.lends is r
      refine ⟨g2, own2, env2, l2, r2, k2, k3, k4, fun j hj t' e => ?_⟩
      rcases List.mem_cons.mp hj with z | z
      · subst z; exact absurd ⟨t', e⟩ hi
      · exact k5 j z t' e
/-- what is one's own is not known -/
def Gs.less (g : Gs) (own : Own) : Gs := { g with S := fun a => if (own a).isSome then none else g.S a }
mutual
theorem Rep.less {g : Gs} {own : Own} (hT : ∀ a xs, g.S a = some (.tup xs) → own a = none) : ∀ {v : V} {t : T}, Rep K g v t → plain t = true → Rep K (g.less own) v t
  | _, _, .non, _ => .non
  | _, _, .bl b, _ => .bl b
  | _, _, .int i, _ => .int i
  | _, _, .str x, _ => .str x
  | _, _, .tup h r, hp => .tup (by show (if _ then _ else _) = _; rw [hT _ _ h, if_neg (by simp)]; exact h) (Reps.less hT r hp)
  | _, _, .ptup _ _ _, hp => nomatch hp
  | _, _, .lst _ _, hp => nomatch hp
  | _, _, .dK _ _, hp => nomatch hp
  | _, _, .dT _ _, hp => nomatch hp
  | _, _, .rng _, hp => nomatch hp
  | _, _, .scr _, hp => nomatch hp
  | _, _, .src _, hp => nomatch hp
theorem Reps.less {g : Gs} {own : Own} (hT : ∀ a xs, g.S a = some (.tup xs) → own a = none) : ∀ {vs : List V} {ts : List T}, Reps K g vs ts → plains ts = true → Reps K (g.less own) vs ts
  | _, _, .nil, _ => .nil
  | _, _, .cons a b, hp => by
    have hp' : (plain _ && plains _) = true := hp
    rw [Bool.and_eq_true] at hp'
    exact .cons (Rep.less hT a hp'.1) (Reps.less hT b hp'.2)
end
end

section
variable {K : PySem.W.Frag} {H0 : Fm} {g : Gs} {own : Own} {env : List Slot} {s : Src} {σ : L2.St} {H : Hp}
/-- behind the call: what was lent is one's own again -/
theorem R.back (r : R K H0 g own env s σ H) {g1 : Gs} {own1 : Own} {env1 : List Slot} {g2 : Gs} {s2 : Src} {H2 : Hp} (l1 : Le g g1) (l2 : Le g1 g2) (k : ∀ a j, own a = some j → own1 a = some j ∨ ∃ o, g1.S a = some o ∧ H a = some o)
    (r2 : R K H0 g2 own1 env1 s2 σ H2) (kp : ∀ a i o, own1 a = some i → H a = some o → H2 a = some o) : Le g (g2.less own) ∧ R K H0 (g2.less own) own env s2 σ H2 := by
  have kk : ∀ a i o, own a = some i → H a = some o → H2 a = some o := fun a i o e h => by
    rcases k a i e with z | ⟨o', h1, h2⟩
    · exact kp a i o z h
    · rw [h2] at h; cases h; exact r2.sub a _ (l2.S _ _ h1)
  have l : Le g (g2.less own) := ⟨fun a o e => by
    show (if _ then _ else _) = _
    have : own a = none := by
      cases q : own a with
      | none => rfl
      | some j => rw [(r.own_ a j q).1] at e; cases e
    rw [this, if_neg (by simp)]
    exact l2.S _ _ (l1.S _ _ e), fun p e => l2.loc _ (l1.loc _ e)⟩
  have lessS : ∀ a o, (g2.less own).S a = some o → g2.S a = some o := fun a o e => by
    have e' : (if (own a).isSome then none else g2.S a) = some o := e
    split at e'
    · cases e'
    · exact e'
  have lessN : ∀ a, g2.S a = none → (g2.less own).S a = none := fun a e => by
    show (if _ then _ else _) = _
    split
    · rfl
    · exact e
  refine ⟨l, r.len, fun a o e => r2.sub a o (lessS a o e), r2.keep, fun a ha => ⟨lessN a (r2.prot a ha).1, (r.prot a ha).2⟩, r2.prL, r2.src, fun a ha => ⟨lessN a (r2.locS a ha).1, ?_⟩, fun a i e => ?_, fun i v x e1 e2 => (r.slot i v x e1 e2).keeps l kk, fun i t e => ?_⟩
  · cases q : own a with
    | none => rfl
    | some j =>
      rcases k a j q with z | ⟨o, h1, h2⟩
      · have := (r2.locS a ha).2
        rw [z] at this; cases this
      · have := (r2.locS a ha).1
        rw [l2.S _ _ h1] at this; cases this
  · obtain ⟨h1, h2, o, h3, h4⟩ := r.own_ a i e
    refine ⟨?_, h2, o, kk a i o e h3, h4⟩
    show (if _ then _ else _) = _
    rw [e]; rfl
  · obtain ⟨a, u, kvs, ts, h1, h2, h3, h4, h5, h6⟩ := r.lkd i t e
    exact ⟨a, u, kvs, ts, h1, h2, h3, h4, h5, h6.mono l⟩
end
section
variable {X : Cx} {Φ : String → List T → Src → Option (T × Src)} {x y z : Expr} {a b c : E} {pos p : Pos} {m : Bool}
/-- operands as they stand -/
inductive Opds (K : PySem.W.Frag) (g : Gs) (own : Own) (env : List Slot) (σ : L2.St) : List E → List V → List T → Prop
  | nil : Opds K g own env σ [] [] []
  | cons {e : E} {v : V} {t : T} {es : List E} {vs : List V} {ts : List T} : OpdP K true (fvI e) g own env σ v t → Opds K g own env σ es vs ts → Opds K g own env σ (e :: es) (v :: vs) (t :: ts)
theorem Opds.mono {K : PySem.W.Frag} {g g' : Gs} {own : Own} {env : List Slot} {σ : L2.St} (l : Le g g') {es : List E} {vs : List V} {ts : List T} (h : Opds K g own env σ es vs ts) : Opds K g' own env σ es vs ts := by
  induction h with
  | nil => exact .nil
  | cons a _ ih => exact .cons (a.mono l) ih
def tOs (K : PySem.W.Frag) (Φ : String → List T → Src → Option (T × Src)) (es : List E) : TA := fun σ H Q => ∃ H0 g own env s ts s', R K H0 g own env s σ H ∧ evTs Φ es true env s = some (ts, s') ∧ ∀ g' vs H', Le g g' → R K H0 g' own env s' σ H' → Opds K g' own env σ es vs ts → Q vs H'
theorem os_nil : PA X [] (tOs X.K Φ []) := (pa_nil (X := X)).imp fun σ H Q ⟨H0, g, own, env, s, ts, s', r, e, q⟩ => by
  simp only [evTs] at e
  cases e
  exact q g [] H (Le.refl g) r .nil
theorem os_cons {xs : List Expr} {es : List E} (ha : PE X x (tO X.K Φ a true)) (hr : PA X xs (tOs X.K Φ es)) (h1 : isStar x = false) : PA X (x :: xs) (tOs X.K Φ (a :: es)) := (pa_cons ha hr (starEach_cons h1)).imp fun σ H Q ⟨H0, g, own, env, s, ts, s', r, e, q⟩ => by
  simp only [evTs] at e
  split at e
  · cases e
  · rename_i t1 s1 e1
    split at e
    · cases e
    · rename_i t2 s2 e2
      cases e
      refine ⟨H0, g, own, env, s, t1, s1, r, e1, fun g1 v H1 l1 r1 p1 => ?_⟩
      refine ⟨H0, g1, own, env, s1, t2, _, r1, e2, fun g2 vs H2 l2 r2 p2 => ?_⟩
      exact q g2 (v :: vs) H2 (l1.trans l2) r2 (.cons (p1.mono l2) p2)
theorem evTs_len {es : List E} : ∀ {env : List Slot} {s s1 : Src} {ts : List T}, evTs Φ es true env s = some (ts, s1) → ts.length = es.length := by
  induction es with
  | nil => intro env s s1 ts e; simp only [evTs] at e; cases e; rfl
  | cons a as ih =>
    intro env s s1 ts e
    simp only [evTs] at e
    split at e
    · cases e
    · split at e
      · cases e
      · rename_i h; cases e; simp [ih h]
theorem lent_reps {K : PySem.W.Frag} {g1 g2 : Gs} {own own2 : Own} {env env2 : List Slot} {σ : L2.St} {H0 : Fm} {s1 : Src} {H1 : Hp} {all : List Nat} (k5 : ∀ j ∈ all, ∀ t, env[j]? = some (Slot.ow t) → env2[j]? = some (Slot.sh t)) (l2 : Le g1 g2) (r2 : R K H0 g2 own2 env2 s1 σ H1) :
    ∀ {es : List E} {vs : List V} {ts : List T}, Opds K g1 own env σ es vs ts → lendB env es = true → (∀ j ∈ fvIs es, j ∈ all) → Reps K g2 vs ts
  | _, _, _, .nil, _, _ => .nil
  | _, _, _, .cons (e := e) (es := es) h t, hl, sub => by
    unfold lendB at hl
    rw [List.all_cons, Bool.and_eq_true] at hl
    refine .cons ?_ (lent_reps k5 l2 r2 t hl.2 fun j hj => sub j (by unfold fvIs; exact List.mem_append_right _ hj))
    rcases h with h | ⟨-, i, w, hi, h1, h2, h3, h4⟩
    · exact h.mono l2
    · have he : e = .var i := by
        cases e <;> first | (simp [fvI] at hi; done) | skip
        · simp [fvI] at hi; rw [hi]
        · simp at hl
        · simp at hl
      subst he
      have hw : ∃ t0, w = .ow t0 := by
        cases w with
        | ow t0 => exact ⟨t0, rfl⟩
        | sh t0 => exact absurd rfl (h4 t0)
        | un => cases h3
        | lk t0 => simp [h2] at hl
        | ow2 t0 => cases h3
      obtain ⟨t0, rfl⟩ := hw
      cases h3
      have z := k5 i (sub i (by simp [fvIs, fvI])) _ h2
      have q3 := r2.slot i _ _ h1 z
      cases q3 with
      | sh hrep => exact hrep
theorem s_callL {k : Nat} {f : String} {es : List E} {xs : List Expr} {n : Str} {np : Nat} (hu : User X k (Φ f) n np) (hr : Room k X.A) (hg : Gl X n) (ha : PA X (x :: xs) (tOs X.K Φ es)) (hn : es.length = np) (hs : ((x :: xs).all fun x => !isStar x) = true) (hd : (n == ("__debug__" : Str)) = false) :
    PE X (.Call (.Name n p) (x :: xs) [] pos) (tE X.K Φ (.callL f es) m) := by
  obtain ⟨fa, fd, ps, F, h1, h2, h3⟩ := hu.ex
  rw [List.all_cons, Bool.and_eq_true] at hs
  have h4 : isStar x = false := by simpa using hs.1
  refine (pe_call (E := L2.E0) F hr hg h1 h2 h3 .nil pass0 ha hd (starEach_cons h4) (any_back hs.2)).imp fun σ H Q ⟨H0, g, own, env, s, t, s', r, e, q⟩ => ?_
  simp only [evE] at e
  split at e
  · cases e
  · rename_i ts s1 e1
    split at e
    · cases e
    · rename_i hl
      split at e
      · rename_i t1 s2 e2
        simp only [Option.ite_none_right_eq_some, Option.some.injEq, Prod.mk.injEq] at e
        obtain ⟨hp, rfl, rfl⟩ := e
        refine ⟨H0, g, own, env, s, ts, s1, r, e1, fun g1 vs H1 l1 r1 p1 => ?_⟩
        obtain ⟨g2, own2, env2, l2, r2, k2, k3, k4, k5⟩ := r1.lends (fvIs es)
        have hlend : lendB env es = true := by simpa using hl
        have reps : Reps X.K g2 vs ts := lent_reps k5 l2 r2 p1 hlend fun j h => h
        refine ⟨by rw [List.append_nil, reps.length, evTs_len e1, hn], g2, _, s1, ts, t1, s2, (by rw [List.append_nil]; exact r2.callee reps), e2, fun g3 v H3 l3 r3 p3 => ?_⟩
        have kp : ∀ a i o, own2 a = some i → H1 a = some o → H3 a = some o := fun a i o e h => r3.keep a o h (r3.prL a (.inr ⟨i, e⟩))
        have r4 := r2.behind l3 r3
        obtain ⟨l5, r5⟩ := r1.back l2 l3 k2 r4 kp
        refine q _ v H3 (l1.trans l5) r5 (Val.ofRep (Rep.less (fun a xs h => ?_) p3 hp))
        cases qo : own a with
        | none => rfl
        | some j =>
          obtain ⟨_, _, o, h3, h4⟩ := r5.own_ a j qo
          have := r3.sub a _ h
          rw [this] at h3
          cases h3
          exact h4.elim
      · cases e
end
end Gh
set_option linter.all false
set_option maxRecDepth 100000
set_option maxHeartbeats 1000000
namespace Gh
open PySem PySem.Spec PyProof.Rows L2

/-! ### the mini-terms against the text -/
def visB (C : Ctx) (i : Nat) (n : Str) : Bool := decide (C.N[i]? = some n) && (decide (C.sc.names.lookup n = some .local) || decide (C.sc.names.lookup n = some .cell) || decide (C.sc.names.lookup n = some .free)) && !(n == ("__debug__" : Str)) && !(n == ("__classdict__" : Str))
def glB (C : Ctx) (n : Str) : Bool := decide (C.sc.names.lookup n = some .globalImplicit)
/-- a built-in name -/
def bnB (C : Ctx) (n m : Str) : Bool := decide (n = m) && glB C n
def binB : Op → Operator → Bool
  | .add, .Add => true
  | .sub, .Sub => true
  | .mul, .Mult => true
  | .fdiv, .FloorDiv => true
  | .mod, .Mod => true
  | .pow, .Pow => true
  | _, _ => false
def cmB : Cm → CmpOp → Bool
  | .eq, .Eq => true
  | .ne, .NotEq => true
  | .lt, .Lt => true
  | .le, .LtE => true
  | .gt, .Gt => true
  | .ge, .GtE => true
  | .inn, .In => true
  | .nin, .NotIn => true
  | _, _ => false
def bName : B → Str
  | .len => "len" | .any => "any" | .all => "all" | .tuple => "tuple" | .ptuple => "tuple" | .list => "list" | .sorted => "sorted" | .sum => "sum" | .max => "max" | .min => "min" | .abs => "abs" | .int => "int" | .dict => "dict" | .sset => "sorted"
theorem bin_of {X : Cx} {o : Op} {op : Operator} (h : binB o op = true) : ∃ rr, OpR X (binaryOp op) rr ∧ OpF X.K rr (binT o) := by
  cases o <;> cases op <;> first | (cases h; done) | skip
  · exact ⟨_, opr_add, f_add⟩
  · exact ⟨_, op_sub, f_sub⟩
  · exact ⟨_, opr_mul, f_mul⟩
  · exact ⟨_, op_fdiv, f_fdiv⟩
  · exact ⟨_, op_mod, f_mod⟩
  · exact ⟨_, op_pow, f_pow⟩
theorem cm_of {X : Cx} (hu : X.A.units + 80 < cLine) {o : Cm} {op : CmpOp} (h : cmB o op = true) : ∃ rr, OpR X (compareOp op) rr ∧ CmF X.K rr (cmpT o) := by
  cases o <;> cases op <;> first | (cases h; done) | skip
  · exact ⟨_, op_eqD (by omega), f_eq⟩
  · exact ⟨_, op_neD (by omega), f_ne⟩
  · exact ⟨_, op_lt, f_lt⟩
  · exact ⟨_, op_le, f_le⟩
  · exact ⟨_, op_gt, f_gt⟩
  · exact ⟨_, op_ge, f_ge⟩
  · exact ⟨_, opr_in (by omega), f_in⟩
  · exact ⟨_, opr_nin (by omega), f_nin⟩
/-- f(x) for the built-in functions of one operand -/
theorem bi_of {X : Cx} {x : Expr} {p pos : Pos} {f : B} (hc : X.calm = true) (hu : X.A.units + 80 < cLine) (hg : Gl X (bName f)) (hm : X.mg (bName f) = none) (hs : isStar x = false) (hf : f ≠ .sset) :
    ∃ r, CallF X.K r (biT f) ∧ ∀ t, PA X [x] t → PE X (.Call (.Name (bName f) p) [x] [] pos) (tCB r t) := by
  have hn : (backTo pos (starEach [] X.env)).any (·.1) = false := rfl
  cases f
  · exact ⟨_, f_len, fun t ha => pe_callB cr_lenA hg hm PySem.boot_len ha (by decide) (by decide) (starEach_cons hs) hn⟩
  · exact ⟨_, f_any, fun t ha => pe_callB (cr_any hc) hg hm boot_any ha (by decide) (by decide) (starEach_cons hs) hn⟩
  · exact ⟨_, f_all, fun t ha => pe_callB (cr_all hc) hg hm boot_all ha (by decide) (by decide) (starEach_cons hs) hn⟩
  · exact ⟨_, f_tuple, fun t ha => pe_callTy call_tuple_of hg hm PyProof.Rows.boot_tuple ha (by decide) (by decide) (starEach_cons hs) hn⟩
  · exact ⟨_, f_ptuple, fun t ha => pe_callTy cr_tupPl hg hm PyProof.Rows.boot_tuple ha (by decide) (by decide) (starEach_cons hs) hn⟩
  · exact ⟨_, f_list, fun t ha => pe_callTy (cr_listA hc) hg hm PyProof.Rows.boot_list ha (by decide) (by decide) (starEach_cons hs) hn⟩
  · exact ⟨_, f_sorted, fun t ha => pe_callB (cr_sortA hc hu) hg hm boot_sorted ha (by decide) (by decide) (starEach_cons hs) hn⟩
  · exact ⟨_, f_sum, fun t ha => pe_callB (cr_sumA hc) hg hm boot_sum ha (by decide) (by decide) (starEach_cons hs) hn⟩
  · exact ⟨_, f_max, fun t ha => pe_callB (cr_maxA hc hu) hg hm boot_max ha (by decide) (by decide) (starEach_cons hs) hn⟩
  · exact ⟨_, f_min, fun t ha => pe_callB (cr_minA hc hu) hg hm boot_min ha (by decide) (by decide) (starEach_cons hs) hn⟩
  · exact ⟨_, f_abs, fun t ha => pe_callB call_abs hg hm boot_abs ha (by decide) (by decide) (starEach_cons hs) hn⟩
  · exact ⟨_, f_int, fun t ha => pe_callTy call_int1 hg hm PyProof.Rows.boot_int ha (by decide) (by decide) (starEach_cons hs) hn⟩
  · exact ⟨_, f_dict, fun t ha => pe_callTy (cr_dictA hc) hg hm PyProof.Rows.boot_dict ha (by decide) (by decide) (starEach_cons hs) hn⟩
  · exact absurd rfl hf

/-! ### shapes -/
def asBin : Expr → Option (Expr × Operator × Expr)
  | .BinOp l op r _ => some (l, op, r)
  | _ => none
theorem asBin_eq {x l r : Expr} {op : Operator} (h : asBin x = some (l, op, r)) : ∃ pos, x = .BinOp l op r pos := by
  unfold asBin at h; split at h <;> cases h; exact ⟨_, rfl⟩
def asCmp : Expr → Option (Expr × CmpOp × Expr)
  | .Compare l [op] [r] _ => some (l, op, r)
  | _ => none
theorem asCmp_eq {x l r : Expr} {op : CmpOp} (h : asCmp x = some (l, op, r)) : ∃ pos, x = .Compare l [op] [r] pos := by
  unfold asCmp at h; split at h <;> cases h; exact ⟨_, rfl⟩
def asCmp2 : Expr → Option (Expr × CmpOp × Expr × CmpOp × Expr)
  | .Compare l [op, op'] [r, r'] _ => some (l, op, r, op', r')
  | _ => none
theorem asCmp2_eq {x l r r' : Expr} {op op' : CmpOp} (h : asCmp2 x = some (l, op, r, op', r')) : ∃ pos, x = .Compare l [op, op'] [r, r'] pos := by
  unfold asCmp2 at h; split at h <;> cases h; exact ⟨_, rfl⟩
def asNone : Expr → Bool
  | .Constant .none _ _ => true
  | _ => false
theorem asNone_eq {x : Expr} (h : asNone x = true) : ∃ j pos, x = .Constant .none j pos := by
  unfold asNone at h; split at h <;> cases h; exact ⟨_, _, rfl⟩
def asBl : Expr → Option Bool
  | .Constant (.bool b) _ _ => some b
  | _ => none
theorem asBl_eq {x : Expr} {b : Bool} (h : asBl x = some b) : ∃ j pos, x = .Constant (.bool b) j pos := by
  unfold asBl at h; split at h <;> cases h; exact ⟨_, _, rfl⟩
def asUn : Expr → Option (UnaryOp × Expr)
  | .UnaryOp op a _ => some (op, a)
  | _ => none
theorem asUn_eq {x a : Expr} {op : UnaryOp} (h : asUn x = some (op, a)) : ∃ pos, x = .UnaryOp op a pos := by
  unfold asUn at h; split at h <;> cases h; exact ⟨_, rfl⟩
/-- a op (the rest) -/
def asBool : Expr → Option (BoolOp × Expr × Expr)
  | .BoolOp op [x, y] _ => some (op, x, y)
  | .BoolOp op (x :: y :: z :: r) pos => some (op, x, .BoolOp op (y :: z :: r) pos)
  | _ => none
theorem asBool_eq {x a b : Expr} {op : BoolOp} (h : asBool x = some (op, a, b)) : (∃ pos, x = .BoolOp op [a, b] pos) ∨ ∃ y z r pos, b = .BoolOp op (y :: z :: r) pos ∧ x = .BoolOp op (a :: y :: z :: r) pos := by
  unfold asBool at h; split at h <;> cases h
  · exact .inl ⟨_, rfl⟩
  · exact .inr ⟨_, _, _, _, rfl, rfl⟩
def asIf : Expr → Option (Expr × Expr × Expr)
  | .IfExp c a b _ => some (c, a, b)
  | _ => none
theorem asIf_eq {x c a b : Expr} (h : asIf x = some (c, a, b)) : ∃ pos, x = .IfExp c a b pos := by
  unfold asIf at h; split at h <;> cases h; exact ⟨_, rfl⟩
def asTup : Expr → Option (List Expr)
  | .Tuple xs _ _ => some xs
  | _ => none
theorem asTup_eq {x : Expr} {xs : List Expr} (h : asTup x = some xs) : ∃ k pos, x = .Tuple xs k pos := by
  unfold asTup at h; split at h <;> cases h; exact ⟨_, _, rfl⟩
def asLst : Expr → Option (List Expr)
  | .List xs _ => some xs
  | _ => none
theorem asLst_eq {x : Expr} {xs : List Expr} (h : asLst x = some xs) : ∃ pos, x = .List xs pos := by
  unfold asLst at h; split at h <;> cases h; exact ⟨_, rfl⟩
def asDct : Expr → Option (List (Option Expr) × List Expr)
  | .Dict ks vs _ => some (ks, vs)
  | _ => none
theorem asDct_eq {x : Expr} {ks : List (Option Expr)} {vs : List Expr} (h : asDct x = some (ks, vs)) : ∃ pos, x = .Dict ks vs pos := by
  unfold asDct at h; split at h <;> cases h; exact ⟨_, rfl⟩
def asSub : Expr → Option (Expr × Expr)
  | .Subscript a b _ => some (a, b)
  | _ => none
theorem asSub_eq {x a b : Expr} (h : asSub x = some (a, b)) : ∃ pos, x = .Subscript a b pos := by
  unfold asSub at h; split at h <;> cases h; exact ⟨_, rfl⟩
def asSl : Expr → Option (Option Expr × Option Expr)
  | .Slice lo hi none _ => some (lo, hi)
  | _ => none
theorem asSl_eq {x : Expr} {lo hi : Option Expr} (h : asSl x = some (lo, hi)) : ∃ pos, x = .Slice lo hi none pos := by
  unfold asSl at h; split at h <;> cases h; exact ⟨_, rfl⟩
def asCall : Expr → Option (Str × List Expr)
  | .Call (.Name n _) xs [] _ => some (n, xs)
  | _ => none
theorem asCall_eq {x : Expr} {n : Str} {xs : List Expr} (h : asCall x = some (n, xs)) : ∃ p pos, x = .Call (.Name n p) xs [] pos := by
  unfold asCall at h; split at h <;> cases h; exact ⟨_, _, rfl⟩
def asName : Expr → Option Str
  | .Name n _ => some n
  | _ => none
theorem asName_eq {x : Expr} {n : Str} (h : asName x = some n) : ∃ p, x = .Name n p := by
  unfold asName at h; split at h <;> cases h; exact ⟨_, rfl⟩
def asMeth : Expr → Option (Expr × Str × List Expr)
  | .Call (.Attribute o m apos) xs [] cpos => if apos.endLine == cpos.line then some (o, m, xs) else none
  | _ => none
theorem asMeth_eq {x o : Expr} {m : Str} {xs : List Expr} (h : asMeth x = some (o, m, xs)) : ∃ apos cpos, x = .Call (.Attribute o m apos) xs [] cpos ∧ (apos.endLine == cpos.line) = true := by
  unfold asMeth at h
  split at h
  · split at h
    · rename_i hl; cases h; exact ⟨_, _, rfl, hl⟩
    · cases h
  · cases h
/-- what `attributeBase` leaves alone -/
def plainB : Expr → Bool
  | .Call (.Name _ _) [] [] _ => false
  | _ => true
theorem plainB_ok {o : Expr} {m : Str} {env : Env} (h : plainB o = true) : attributeBase o m env (eval o env) = eval o env := by
  unfold attributeBase
  split
  · cases h
  · rfl
def asLc : Expr → Option (Expr × Expr × Expr × List Expr × Scope)
  | .ListComp elt [⟨tg, it, ifs, 0⟩] scope _ => some (elt, tg, it, ifs, scope)
  | _ => none
theorem asLc_eq {x elt tg it : Expr} {ifs : List Expr} {scope : Scope} (h : asLc x = some (elt, tg, it, ifs, scope)) : ∃ pos, x = .ListComp elt [⟨tg, it, ifs, 0⟩] scope pos := by
  unfold asLc at h; split at h <;> cases h; exact ⟨_, rfl⟩
def asLc2 : Expr → Option (Expr × Expr × Expr × Expr × Expr × Scope)
  | .ListComp elt [⟨tg, it, [], 0⟩, ⟨tg2, it2, [], 0⟩] scope _ => some (elt, tg, it, tg2, it2, scope)
  | _ => none
theorem asLc2_eq {x elt tg it tg2 it2 : Expr} {scope : Scope} (h : asLc2 x = some (elt, tg, it, tg2, it2, scope)) : ∃ pos, x = .ListComp elt [⟨tg, it, [], 0⟩, ⟨tg2, it2, [], 0⟩] scope pos := by
  unfold asLc2 at h; split at h <;> cases h; exact ⟨_, rfl⟩
def asDc : Expr → Option (Expr × Expr × Expr × Expr × List Expr × Scope)
  | .DictComp k v [⟨tg, it, ifs, 0⟩] scope _ => some (k, v, tg, it, ifs, scope)
  | _ => none
theorem asDc_eq {x k v tg it : Expr} {ifs : List Expr} {scope : Scope} (h : asDc x = some (k, v, tg, it, ifs, scope)) : ∃ pos, x = .DictComp k v [⟨tg, it, ifs, 0⟩] scope pos := by
  unfold asDc at h; split at h <;> cases h; exact ⟨_, rfl⟩
def isSetE : Expr → Bool
  | .Set _ _ _ => true
  | _ => false
theorem folded_ok {x : Expr} (h : isSetE x = false) (env : Env) (v : Value) : foldedSetIterable x env v = pure v := by
  unfold foldedSetIterable
  split
  · cases h
  · rfl
def ownP' (C : Ctx) (vs : List Nat) : List (Str × Nat) := vs.map fun i => (C.N.getD i "", i)
/-- the block's side conditions -/
def blkB (C : Ctx) (scope : Scope) (vs fv tv : List Nat) : Bool := blkC C.N C.sc scope (ownP' C vs) && (fv.all fun i => decide (i ∉ vs)) && (tv.all fun i => decide (i ∈ vs))
def isTB : E → Bool
  | .cB true => true
  | _ => false
def isIter : E → Bool
  | .enum _ => true
  | .zip _ => true
  | _ => false
mutual
def okE (C : Ctx) : E → Expr → Bool
  | .var i, x => (match asName x with | some n => visB C i n | none => false)
  | .cI k, x => (match x with | .Constant (.int j) _ _ => decide (k = j) | _ => false)
  | .cS k, x => (match x with | .Constant (.str j) _ _ => decide (Str.ofString k = j) | _ => false)
  | .cB k, x => (match asBl x with | some j => k == j | none => false)
  | .cN, x => asNone x
  | .bin o a b, x => (match asBin x with | some (l, op, r) => binB o op && okE C a l && okE C b r | none => false)
  | .cmp o a b, x => (match asCmp x with | some (l, op, r) => cmB o op && okE C a l && okE C b r && !behindInMarks op r | none => false)
  | .isN neg a, x => (match asCmp x with | some (l, op, r) => decide (op = if neg then .IsNot else .Is) && asNone r && okE C a l | none => false)
  | .isB neg k a, x => (match asCmp x with | some (l, op, r) => decide (op = if neg then .IsNot else .Is) && (asBl r == some k) && okE C a l | none => false)
  | .ch o o' a b c, x => (match asCmp2 x with | some (l, op, r, op', r') => cmB o op && cmB o' op' && okE C a l && okE C b r && okE C c r' && !lastMarks [op, op'] [r, r'] | none => false)
  | .neg a, x => (match asUn x with | some (op, y) => decide (op = .USub) && okE C a y | none => false)
  | .not a, x => (match asUn x with | some (op, y) => decide (op = .Not) && okE C a y | none => false)
  | .and a b, x => (match asBool x with | some (op, l, r) => decide (op = .And) && okE C a l && okE C b r | none => false)
  | .or a b, x => (match asBool x with | some (op, l, r) => decide (op = .Or) && okE C a l && okE C b r | none => false)
  | .ite c a b, x => (match asIf x with | some (z, l, r) => okE C c z && okE C a l && okE C b r | none => false)
  | .tup es, x => (match asTup x with | some xs => okEs C es xs | none => false)
  | .lst es, x => (match asLst x with | some xs => okEs C es xs | none => false)
  | .dct ds, x => (match asDct x with | some (ks, vs) => okD C ds ks vs && decide (ks.length ≤ 15) | none => false)
  | .dctS o ds, x => (match asDct x with | some (none :: ks, y :: vs) => okE C o y && okD C ds ks vs && decide (ks.length ≤ 15) && decide (ks ≠ []) | _ => false)
  | .ptup0, x => (match asTup x with | some xs => xs.isEmpty | none => false)
  | .idx a i, x => (match asSub x with | some (l, r) => okE C a l && okE C i r && !isSlice r | none => false)
  | .sl a lo hi, x => (match asSub x with | some (l, r) => (match asSl r with | some (u, v) => okE C a l && (match u with | none => isCN lo | some y => !isCN lo && okE C lo y) && (match v with | none => isCN hi | some y => !isCN hi && okE C hi y) | none => false) | none => false)
  | .call f es, x => (match asCall x with | some (n, xs) => glB C n && !(n == ("__debug__" : Str)) && C.us.contains (n, f, es.length) && okEs C es xs && (es.all fun e => !isStarE e) && (xs.all fun e => !isStar e) | none => false)
  | .callL f es, x => (match asCall x with | some (n, xs) => glB C n && !(n == ("__debug__" : Str)) && C.us.contains (n, f, es.length) && okTs C es xs && !es.isEmpty | none => false)
  | .bi f a, x => (match asCall x with | some (n, [y]) => bnB C n (bName f) && !isStar y && (if f = .sset then (match asCall y with | some (n2, [z]) => bnB C n2 "set" && !isStar z && okE C a z | _ => false) else okE C a y) | _ => false)
  | .bi2 f a b, x => (match asCall x with | some (n, [y, z]) => bnB C n (bName f) && (decide (f = .max) || decide (f = .min)) && okE C a y && okE C b z && !isStar y && !isStar z | _ => false)
  | .isi a ty, x => (match asCall x with | some (n, [y, z]) => bnB C n "isinstance" && okE C a y && !isStar y && (match asName z with | some n2 => bnB C n2 (tyN ty) | none => false) | _ => false)
  | .lrange es, x => (match asCall x with | some (n, [y]) => bnB C n "list" && (match asCall y with | some (n2, [z]) => bnB C n2 "range" && !isStar z && okEs1 C es z | _ => false) | _ => false)
  | .range es, x => (match asCall x with | some (n, [z]) => bnB C n "range" && !isStar z && okEs1 C es z | _ => false)
  | .get o k, x => (match asMeth x with | some (y, m, [z]) => decide (m = "get") && plainB y && okE C o y && okE C k z && !isStar z | _ => false)
  | .get2 o k d, x => (match asMeth x with | some (y, m, [z, w]) => decide (m = "get") && plainB y && okE C o y && okE C k z && okE C d w && !isStar z && !isStar w | _ => false)
  | .comp elt tg it c own, x => (match asLc x with | some (ex, tx, ix, ifs, scope) => blkB C scope own (fvI it) (tgV tg) && !isSetE ix && (okI C it ix tx || okE C it ix) && okTg (C.blk scope) tg tx && (match ifs with | [] => isTB c | [cx] => okE (C.blk scope) c cx | _ => false) && okE (C.blk scope) elt ex | none => false)
  | .comp2 elt tg it tg2 it2 own, x => (match asLc2 x with | some (ex, tx, ix, tx2, ix2, scope) => blkB C scope own (fvI it) (tgV tg) && ((fvI it2).all fun i => decide (i ∉ tgV tg2)) && ((tgV tg2).all fun i => decide (i ∈ own)) && !isSetE ix && !isSetE ix2 && (okI C it ix tx || okE C it ix) && okTg (C.blk scope) tg tx && (okI (C.blk scope) it2 ix2 tx2 || okE (C.blk scope) it2 ix2) && okTg (C.blk scope) tg2 tx2 && okE (C.blk scope) elt ex | none => false)
  | .dcomp k v tg it c own, x => (match asDc x with | some (kx, vx, tx, ix, ifs, scope) => blkB C scope own (fvI it) (tgV tg) && !isSetE ix && (okI C it ix tx || okE C it ix) && okTg (C.blk scope) tg tx && (match ifs with | [] => isTB c | [cx] => okE (C.blk scope) c cx | _ => false) && okE (C.blk scope) k kx && okE (C.blk scope) v vx | none => false)
  | _, _ => false
/-- what a for walks -/
def okI (C : Ctx) : E → Expr → Expr → Bool
  | .range es, x, _ => (match asCall x with | some (n, xs) => bnB C n "range" && okTs C es xs && (decide (xs.length = 1) || decide (xs.length = 2)) | _ => false)
  | .enum a, x, tx => (match asCall x, tx with | some (n, [y]), .Tuple _ _ _ => bnB C n "enumerate" && okE C a y && !isStar y && !isIter a | _, _ => false)
  | .zip es, x, tx => (match asCall x, tx with | some (n, xs), .Tuple _ _ _ => bnB C n "zip" && okTs C es xs && decide (xs.length = 2) && (es.all fun e => !isIter e) | _, _ => false)
  | _, _, _ => false
def okEs (C : Ctx) : List E → List Expr → Bool
  | [], [] => true
  | .star e :: es, x :: xs => (match x with | .Starred y _ => okE C e y | _ => false) && okEs C es xs
  | e :: es, x :: xs => okE C e x && !isStar x && okEs C es xs
  | _, _ => false
def okTs (C : Ctx) : List E → List Expr → Bool
  | [], [] => true
  | e :: es, x :: xs => okE C e x && !isStar x && okTs C es xs
  | _, _ => false
def okEs1 (C : Ctx) : List E → Expr → Bool
  | [e], x => okE C e x
  | _, _ => false
def okD (C : Ctx) : List E → List (Option Expr) → List Expr → Bool
  | [], [], [] => true
  | .kv k v :: ds, some kx :: ks, vx :: vs => okE C k kx && okE C v vx && okD C ds ks vs
  | _, _, _ => false
end
end Gh
set_option linter.all false
set_option maxRecDepth 100000
set_option maxHeartbeats 2000000
namespace Gh
open PySem PySem.Spec PyProof.Rows L2

section
variable {Φ : String → List T → Src → Option (T × Src)} {k : Nat}
theorem evE_m {e : E} (h1 : isVar e = false) (h2 : isIter e = false) (m : Bool) (env : List Slot) (s : Src) : evE Φ e m env s = evE Φ e false env s := by
  cases e <;> first | (cases h1; done) | (cases h2; done) | (simp only [evE])
theorem evE_up {e : E} (h2 : isIter e = false) (env : List Slot) (s : Src) (r : T × Src) (h : evE Φ e false env s = some r) : evE Φ e true env s = some r := by
  cases hv : isVar e with
  | false => rw [evE_m hv h2 true env s]; exact h
  | true =>
    cases e <;> first | (cases hv; done) | skip
    simp only [evE] at h ⊢
    split at h <;> simp_all
structure SE (Φ : String → List T → Src → Option (T × Src)) (X : Cx) (e : E) (x : Expr) : Prop where
  it : isIter e = false
  t0 : PE X x (tE X.K Φ e false)
  t1 : PE X x (tE X.K Φ e true)
  f : freshE e = true → PE X x (tF X.K Φ e)
  b : PT X x (tB X.K Φ e)
  w : (∃ op xs pos, x = .BoolOp op xs pos) → PW X x (tB X.K Φ e)
theorem SE.ofF {X : Cx} {e : E} {x : Expr} (h1 : isVar e = false) (h2 : isIter e = false) (h : PE X x (tF X.K Φ e)) (hb : PT X x (tB X.K Φ e)) (hw : ∀ op xs pos, x ≠ .BoolOp op xs pos) : SE Φ X e x :=
  ⟨h2, tE_of e (fun _ _ => rfl) h, tE_of e (fun env s => evE_m h1 h2 true env s) h, fun _ => h, hb, fun ⟨op, xs, pos, e⟩ => absurd e (hw op xs pos)⟩
theorem SE.ofT {X : Cx} {e : E} {x : Expr} (h1 : isVar e = false) (h2 : isIter e = false) (h : PE X x (tF X.K Φ e)) (he : ∀ whole, isTrue x X.env whole = (do let v ← whole; standAt x.pos; holding [v] (truthy v))) (hw : ∀ op xs pos, x ≠ .BoolOp op xs pos) : SE Φ X e x :=
  .ofF h1 h2 h (tB_of (tE_of e (fun env s => evE_m h1 h2 true env s) h) he) hw
theorem SE.ofE {X : Cx} {e : E} {x : Expr} (h1 : isVar e = false) (h2 : isIter e = false) (h3 : freshE e = false) (h : PE X x (tE X.K Φ e false)) (he : ∀ whole, isTrue x X.env whole = (do let v ← whole; standAt x.pos; holding [v] (truthy v))) (hw : ∀ op xs pos, x ≠ .BoolOp op xs pos) : SE Φ X e x :=
  have t1 := tE_true (fun env s => evE_m h1 h2 true env s) h
  ⟨h2, h, t1, fun z => (by rw [h3] at z; cases z), tB_of t1 he, fun ⟨op, xs, pos, e⟩ => absurd e (hw op xs pos)⟩
theorem SE.o {X : Cx} {e : E} {x : Expr} (h : SE Φ X e x) (hv : isVar e = false) (m : Bool) : PE X x (tO X.K Φ e m) := o_of (fun env s => evE_m hv h.it m env s) h.t0
section
variable {C : Ctx} {X : Cx}
theorem Good.hu (G : Good Φ C k X) : X.A.units + 80 < cLine := by have := G.room.un; omega
theorem Good.hu1 (G : Good Φ C k X) : X.A.units + 1 < cLine := by have := G.room.un; omega
theorem Good.gl (G : Good Φ C k X) {n : Str} (h : glB C n = true) : Gl X n := by
  unfold glB at h
  show X.env.scope.names.lookup n = _
  rw [G.sc]; exact of_decide_eq_true h
theorem Good.bn (G : Good Φ C k X) {n m : Str} (h : bnB C n m = true) (hm : m ∈ blN) : n = m ∧ Gl X m ∧ X.mg m = none := by
  unfold bnB at h
  rw [Bool.and_eq_true] at h
  have e : n = m := of_decide_eq_true h.1
  subst e
  exact ⟨rfl, G.gl h.2, G.bl _ hm⟩
theorem Good.pv (G : Good Φ C k X) {i : Nat} {n : Str} {pos : Pos} (h : visB C i n = true) : PE X (.Name n pos) (tVar i) := by
  unfold visB at h
  simp only [Bool.and_eq_true, Bool.or_eq_true, decide_eq_true_eq, Bool.not_eq_true'] at h
  obtain ⟨⟨⟨h1, h2⟩, h3⟩, h4⟩ := h
  refine pe_var (by rw [G.N]; exact h1) ?_ h3 h4
  rw [G.sc]
  rcases h2 with (h2 | h2) | h2
  · exact .inl h2
  · exact .inr (.inl h2)
  · exact .inr (.inr h2)
/-- tests of a conjunction -/
theorem SE.and {a b : E} {x y : Expr} {pos : Pos} (ha : SE Φ X a x) (hb : SE Φ X b y) (hm : ∀ env s r, evE Φ b false env s = some r → evE Φ b true env s = some r) : SE Φ X (.and a b) (.BoolOp .And [x, y] pos) :=
  have h := s_and (pos := pos) (rest := []) ha.t1 (pe_one hb.t0)
  have w := s_andB (pos := pos) (rest := []) ha.b (pw_and1 (pos := pos) hb.b) hm
  ⟨rfl, h, tE_true (fun env s => evE_m rfl rfl true env s) h, fun z => (by cases z), w.pt, fun _ => w⟩
theorem SE.or {a b : E} {x y : Expr} {pos : Pos} (ha : SE Φ X a x) (hb : SE Φ X b y) (hm : ∀ env s r, evE Φ b false env s = some r → evE Φ b true env s = some r) : SE Φ X (.or a b) (.BoolOp .Or [x, y] pos) :=
  have h := s_or (pos := pos) (rest := []) ha.t1 (pe_one hb.t0)
  have w := s_orB (pos := pos) (rest := []) ha.b (pw_or1 (pos := pos) hb.b) hm
  ⟨rfl, h, tE_true (fun env s => evE_m rfl rfl true env s) h, fun z => (by cases z), w.pt, fun _ => w⟩
end
end
end Gh
set_option linter.all false
set_option maxRecDepth 100000
set_option maxHeartbeats 4000000
namespace Gh
open PySem PySem.Spec PyProof.Rows L2

section
variable {Φ : String → List T → Src → Option (T × Src)} {k : Nat}
theorem no_bool_call {f : Expr} {xs : List Expr} {ks : List Keyword} {pos : Pos} : ∀ op ys p, (Expr.Call f xs ks pos) ≠ .BoolOp op ys p := fun _ _ _ h => by cases h
theorem ifs_ok {C : Ctx} {X : Cx} {c : E} {ifs : List Expr} (h : ∀ x, okE C c x = true → SE Φ X c x) (hk : (match ifs with | [] => isTB c | [cx] => okE C c cx | _ => false) = true) : PTs X ifs (tB X.K Φ c) := by
  split at hk
  · unfold isTB at hk
    split at hk
    · exact pts_none
    · cases hk
  · exact pts_one (h _ hk).b
  · cases hk
theorem pt_ifE {X : Cx} {c a b : Expr} {pos : Pos} {tc ta tb : TT} (hc : PT X c tc) (ha : PT X a ta) (hb : PT X b tb) : PT X (.IfExp c a b pos) (fun σ H Q => tc σ H fun d H1 => if d = true then ta σ H1 Q else tb σ H1 Q) := by
  refine ⟨fun pins s σ H Q I h => ?_⟩
  show wpAny _ _ (do if ← isTrue c X.env (eval c X.env) then isTrue a X.env (eval a X.env) else isTrue b X.env (eval b X.env)) _ _ _
  refine wpAny_bind (thn (hc.run pins s σ H _ I h) fun d s1 ⟨H1, I1, q1⟩ => ?_)
  cases d with
  | true => exact ha.run pins s1 σ H1 Q I1 q1
  | false => exact hb.run pins s1 σ H1 Q I1 q1
theorem s_iteB {X : Cx} {x y z : Expr} {a b c : E} {pos : Pos} (hc : PT X z (tB X.K Φ c)) (ha : PT X x (tB X.K Φ a)) (hb : PT X y (tB X.K Φ b)) (ia : isIter a = false) (ib : isIter b = false) : PT X (.IfExp z x y pos) (tB X.K Φ (.ite c a b)) := (pt_ifE hc ha hb).imp fun σ H Q ⟨H0, g, own, env, s, t, s', r, e, q⟩ => by
  simp only [evE] at e
  cases e1 : evE Φ c true env s with
  | none => rw [e1] at e; cases e
  | some p =>
    obtain ⟨tx, s1⟩ := p
    rw [e1] at e
    cases tx with
    | bl b =>
      cases b with
      | true =>
        refine ⟨H0, g, own, env, s, true, s1, r, e1, fun g1 H1 l1 r1 => ?_⟩
        simp only [if_true]
        exact ⟨H0, g1, own, env, s1, t, s', r1, evE_up ia _ _ _ e, fun g' H' l r' => q g' H' (l1.trans l) r'⟩
      | false =>
        refine ⟨H0, g, own, env, s, false, s1, r, e1, fun g1 H1 l1 r1 => ?_⟩
        simp only [Bool.false_eq_true, if_false]
        exact ⟨H0, g1, own, env, s1, t, s', r1, evE_up ib _ _ _ e, fun g' H' l r' => q g' H' (l1.trans l) r'⟩
    | _ => cases e
theorem user_of {C : Ctx} {X : Cx} (G : Good Φ C k X) {n : Str} {f : String} {np : Nat} (h : C.us.contains (n, f, np) = true) : User X k (Φ f) n np := G.us (n, f, np) (by simpa using h)
theorem blk_of {C : Ctx} {X : Cx} (G : Good Φ C k X) {scope : Scope} {vs fv tv : List Nat} (h : blkB C scope vs fv tv = true) : BlkOk X.N X.env.scope scope (ownP' C vs) ∧ (∀ i ∈ fv, i ∉ vs) ∧ (∀ i ∈ tv, i ∈ vs) ∧ (ownP' C vs).map (·.2) = vs := by
  unfold blkB at h
  simp only [Bool.and_eq_true, List.all_eq_true, decide_eq_true_eq] at h
  refine ⟨by rw [G.N, G.sc]; exact blkOk_by h.1.1, h.1.2, h.2, ?_⟩
  unfold ownP'
  rw [List.map_map]
  exact List.map_id'' (fun _ => rfl) vs
theorem seO {C : Ctx} {X : Cx} (G : Good Φ C k X) {e : E} {x : Expr} {m : Bool} (h : okE C e x = true) (he : SE Φ X e x) : PE X x (tO X.K Φ e m) := by
  cases hv : isVar e with
  | false => exact he.o hv m
  | true =>
    cases e <;> first | (cases hv; done) | skip
    simp only [okE] at h
    split at h
    · rename_i n hn
      obtain ⟨pos, rfl⟩ := asName_eq hn
      exact o_var (G.pv h)
    · cases h
theorem or_pi {C : Ctx} {X : Cx} {e : E} {x tx : Expr} {m : Bool} (h1 : okI C e x tx = true → PI X tx x (tI X.K Φ e m)) (h2 : okE C e x = true → PE X x (tO X.K Φ e m)) (h : (okI C e x tx || okE C e x) = true) : PI X tx x (tI X.K Φ e m) := by
  rw [Bool.or_eq_true] at h
  rcases h with h | h
  · exact h1 h
  · exact i_seq (h2 h)
theorem len1 {α : Type} {xs : List α} (h : xs.length = 1) : ∃ a, xs = [a] := by
  cases xs with
  | nil => cases h
  | cons a r => cases r with
    | nil => exact ⟨a, rfl⟩
    | cons b r => simp at h
mutual
theorem sE : ∀ (e : E) {C : Ctx} {X : Cx} (_ : Good Φ C k X) (x : Expr), okE C e x = true → SE Φ X e x
  | .var i, C, X, G, x, h => by
    simp only [okE] at h
    split at h
    · rename_i n hn
      obtain ⟨pos, rfl⟩ := asName_eq hn
      have hp := G.pv (pos := pos) h
      exact ⟨rfl, s_var hp, s_var hp, fun z => (by cases z), tB_of (s_var hp) (fun _ => rfl), fun ⟨_, _, _, e⟩ => (by cases e)⟩
    · cases h
  | .cI n, C, X, G, x, h => by
    simp only [okE] at h
    split at h
    · rename_i j _ _
      have e := of_decide_eq_true h
      subst e
      exact .ofT rfl rfl (s_const (fun g => .int _) rfl (fun _ _ => by simp only [evE]) pe_int) (fun _ => rfl) (fun _ _ _ z => by cases z)
    · cases h
  | .cS n, C, X, G, x, h => by
    simp only [okE] at h
    split at h
    · have e := of_decide_eq_true h
      subst e
      exact .ofT rfl rfl (s_const (fun g => .str _) rfl (fun _ _ => by simp only [evE]) pe_str) (fun _ => rfl) (fun _ _ _ z => by cases z)
    · cases h
  | .cB b, C, X, G, x, h => by
    simp only [okE] at h
    split at h
    · rename_i j hj
      obtain ⟨_, _, rfl⟩ := asBl_eq hj
      have e : b = j := by simpa using h
      subst e
      exact .ofT rfl rfl (s_const (fun g => .bl _) rfl (fun _ _ => by simp only [evE]) pe_bl) (fun _ => rfl) (fun _ _ _ z => by cases z)
    · cases h
  | .cN, C, X, G, x, h => by
    simp only [okE] at h
    obtain ⟨_, _, rfl⟩ := asNone_eq h
    exact .ofT rfl rfl (s_const (fun g => .non) rfl (fun _ _ => by simp only [evE]) pe_non) (fun _ => rfl) (fun _ _ _ z => by cases z)
  | .bin o a b, C, X, G, x, h => by
    simp only [okE] at h
    split at h
    · rename_i l op r hx
      obtain ⟨pos, rfl⟩ := asBin_eq hx
      simp only [Bool.and_eq_true] at h
      obtain ⟨rr, h1, h2⟩ := bin_of (X := X) h.1.1
      exact .ofT rfl rfl (s_bin h1 h2 (sE a G l h.1.2).t1 (sE b G r h.2).t1) (fun _ => rfl) (fun _ _ _ z => by cases z)
    · cases h
  | .cmp o a b, C, X, G, x, h => by
    simp only [okE] at h
    split at h
    · rename_i l op r hx
      obtain ⟨pos, rfl⟩ := asCmp_eq hx
      simp only [Bool.and_eq_true, Bool.not_eq_true'] at h
      obtain ⟨rr, h1, h2⟩ := cm_of (X := X) G.hu h.1.1.1
      have ha := (sE a G l h.1.1.2).t1
      have hb := (sE b G r h.1.2).t1
      exact .ofF rfl rfl (s_cmp h1 h2 ha hb h.2) (s_cmpB h1 h2 ha hb h.2) (fun _ _ _ z => by cases z)
    · cases h
  | .isN neg a, C, X, G, x, h => by
    simp only [okE] at h
    split at h
    · rename_i l op r hx
      obtain ⟨pos, rfl⟩ := asCmp_eq hx
      simp only [Bool.and_eq_true, decide_eq_true_eq] at h
      obtain ⟨jj, pp, rfl⟩ := asNone_eq h.1.2
      have ha := (sE a G l h.2).t1
      have z := s_isN (pos := pos) (Φ := Φ) (j := jj) (p' := pp) h.1.1 ha
      exact .ofF rfl rfl z.1 z.2 (fun _ _ _ z => by cases z)
    · cases h
  | .isB neg b a, C, X, G, x, h => by
    simp only [okE] at h
    split at h
    · rename_i l op r hx
      obtain ⟨pos, rfl⟩ := asCmp_eq hx
      simp only [Bool.and_eq_true, decide_eq_true_eq, beq_iff_eq] at h
      obtain ⟨jj, pp, rfl⟩ := asBl_eq h.1.2
      have z := s_isB (pos := pos) (Φ := Φ) (j := jj) (p' := pp) (k := b) h.1.1 (sE a G l h.2).t1
      exact .ofF rfl rfl z.1 z.2 (fun _ _ _ z => by cases z)
    · cases h
  | .ch o o' a b c, C, X, G, x, h => by
    simp only [okE] at h
    split at h
    · rename_i l op r op' r' hx
      obtain ⟨pos, rfl⟩ := asCmp2_eq hx
      simp only [Bool.and_eq_true, Bool.not_eq_true'] at h
      obtain ⟨⟨⟨⟨⟨h1, h2⟩, h3⟩, h4⟩, h5⟩, h6⟩ := h
      obtain ⟨rr, i1, i2⟩ := cm_of (X := X) G.hu h1
      obtain ⟨rr', j1, j2⟩ := cm_of (X := X) G.hu h2
      have z := s_ch (pos := pos) i1 j1 i2 j2 (sE a G l h3).t1 (sE b G r h4).t1 (sE c G r' h5).t1 h6
      exact .ofF rfl rfl z.1 z.2 (fun _ _ _ z => by cases z)
    · cases h
  | .neg a, C, X, G, x, h => by
    simp only [okE] at h
    split at h
    · rename_i op y hx
      obtain ⟨pos, rfl⟩ := asUn_eq hx
      simp only [Bool.and_eq_true, decide_eq_true_eq] at h
      obtain ⟨rfl, h2⟩ := h
      exact .ofT rfl rfl (s_neg (sE a G y h2).t1) (fun _ => rfl) (fun _ _ _ z => by cases z)
    · cases h
  | .not a, C, X, G, x, h => by
    simp only [okE] at h
    split at h
    · rename_i op y hx
      obtain ⟨pos, rfl⟩ := asUn_eq hx
      simp only [Bool.and_eq_true, decide_eq_true_eq] at h
      obtain ⟨rfl, h2⟩ := h
      exact .ofF rfl rfl (s_not (sE a G y h2).t1) (s_notB (sE a G y h2).b) (fun _ _ _ z => by cases z)
    · cases h
  | .and a b, C, X, G, x, h => by
    simp only [okE] at h
    split at h
    · rename_i op l r hx
      simp only [Bool.and_eq_true, decide_eq_true_eq] at h
      obtain ⟨⟨rfl, h2⟩, h3⟩ := h
      have ha := sE a G l h2
      have hb := sE b G r h3
      rcases asBool_eq hx with ⟨pos, rfl⟩ | ⟨y, z, rest, pos, rfl, rfl⟩
      · exact ha.and hb fun env s r => evE_up hb.it env s r
      · have h := s_and (pos := pos) ha.t1 hb.t0
        have w := s_andB (pos := pos) ha.b (hb.w ⟨_, _, _, rfl⟩) fun env s r => evE_up hb.it env s r
        exact ⟨rfl, h, tE_true (fun env s => evE_m rfl rfl true env s) h, fun z => (by cases z), w.pt, fun _ => w⟩
    · cases h
  | .or a b, C, X, G, x, h => by
    simp only [okE] at h
    split at h
    · rename_i op l r hx
      simp only [Bool.and_eq_true, decide_eq_true_eq] at h
      obtain ⟨⟨rfl, h2⟩, h3⟩ := h
      have ha := sE a G l h2
      have hb := sE b G r h3
      rcases asBool_eq hx with ⟨pos, rfl⟩ | ⟨y, z, rest, pos, rfl, rfl⟩
      · exact ha.or hb fun env s r => evE_up hb.it env s r
      · have h := s_or (pos := pos) ha.t1 hb.t0
        have w := s_orB (pos := pos) ha.b (hb.w ⟨_, _, _, rfl⟩) fun env s r => evE_up hb.it env s r
        exact ⟨rfl, h, tE_true (fun env s => evE_m rfl rfl true env s) h, fun z => (by cases z), w.pt, fun _ => w⟩
    · cases h
  | .ite c a b, C, X, G, x, h => by
    simp only [okE] at h
    split at h
    · rename_i z l r hx
      obtain ⟨pos, rfl⟩ := asIf_eq hx
      simp only [Bool.and_eq_true] at h
      have hc := sE c G z h.1.1
      have ha := sE a G l h.1.2
      have hb := sE b G r h.2
      have t0 := s_ite (pos := pos) hc.b ha.t0 hb.t0
      exact ⟨rfl, t0, tE_true (fun env s => evE_m rfl rfl true env s) t0, fun z => (by cases z), s_iteB hc.b ha.b hb.b ha.it hb.it, fun ⟨_, _, _, e⟩ => (by cases e)⟩
    · cases h
  | .tup es, C, X, G, x, h => by
    simp only [okE] at h
    split at h
    · rename_i xs hx
      obtain ⟨kk, pos, rfl⟩ := asTup_eq hx
      exact .ofT rfl rfl (s_tup (sEs es G xs h)) (fun _ => rfl) (fun _ _ _ z => by cases z)
    · cases h
  | .lst es, C, X, G, x, h => by
    simp only [okE] at h
    split at h
    · rename_i xs hx
      obtain ⟨pos, rfl⟩ := asLst_eq hx
      exact .ofT rfl rfl (s_lst (sEs es G xs h)) (fun _ => rfl) (fun _ _ _ z => by cases z)
    · cases h
  | .ptup0, C, X, G, x, h => by
    simp only [okE] at h
    split at h
    · rename_i xs hx
      obtain ⟨kk, pos, rfl⟩ := asTup_eq hx
      have e : xs = [] := by simpa using h
      subst e
      exact .ofT rfl rfl s_ptup0 (fun _ => rfl) (fun _ _ _ z => by cases z)
    · cases h
  | .idx a i, C, X, G, x, h => by
    simp only [okE] at h
    split at h
    · rename_i l r hx
      obtain ⟨pos, rfl⟩ := asSub_eq hx
      simp only [Bool.and_eq_true, Bool.not_eq_true'] at h
      exact .ofE rfl rfl rfl (s_idx G.hu1 (sE a G l h.1.1).t1 (sE i G r h.1.2).t0 h.2) (fun _ => rfl) (fun _ _ _ z => by cases z)
    · cases h
  | .dct ds, C, X, G, x, h => by
    simp only [okE] at h
    split at h
    · rename_i ks vs hx
      obtain ⟨pos, rfl⟩ := asDct_eq hx
      simp only [Bool.and_eq_true, decide_eq_true_eq] at h
      obtain ⟨hp, hall, hl⟩ := sD ds G (pos := pos) ks vs h.1
      by_cases h0 : ks = []
      · subst h0
        have hv : vs = [] := List.length_eq_zero_iff.mp hl.symm
        subst hv
        cases ds with
        | nil => exact .ofT rfl rfl s_dct0 (fun _ => rfl) (fun _ _ _ z => by cases z)
        | cons d ds => cases d <;> simp [okD] at h
      · exact .ofT rfl rfl (s_dct hp hall hl h0 h.2) (fun _ => rfl) (fun _ _ _ z => by cases z)
    · cases h
  | .dctS o ds, C, X, G, x, h => by
    simp only [okE] at h
    split at h
    · rename_i ks y vs hx
      obtain ⟨pos, rfl⟩ := asDct_eq hx
      simp only [Bool.and_eq_true, decide_eq_true_eq] at h
      obtain ⟨⟨⟨h1, h2⟩, h3⟩, h4⟩ := h
      obtain ⟨hp, hall, hl⟩ := sD ds G (pos := pos) ks vs h2
      exact .ofT rfl rfl (s_dctS (sE o G y h1).t1 hp hall hl h4 h3) (fun _ => rfl) (fun _ _ _ z => by cases z)
    · cases h
  | .sl a lo hi, C, X, G, x, h => by
    simp only [okE] at h
    split at h
    · rename_i l r hx
      obtain ⟨pos, rfl⟩ := asSub_eq hx
      split at h
      · rename_i u v hy
        obtain ⟨pos2, rfl⟩ := asSl_eq hy
        simp only [Bool.and_eq_true] at h
        obtain ⟨⟨h1, h2⟩, h3⟩ := h
        have e1 : SlEnd X Φ u lo := by
          cases u with
          | none => cases lo <;> first | exact .none | (cases h2; done)
          | some y => simp only [Bool.and_eq_true, Bool.not_eq_true'] at h2; exact .some (sE lo G y h2.2).t0 h2.1
        have e2 : SlEnd X Φ v hi := by
          cases v with
          | none => cases hi <;> first | exact .none | (cases h3; done)
          | some y => simp only [Bool.and_eq_true, Bool.not_eq_true'] at h3; exact .some (sE hi G y h3.2).t0 h3.1
        exact .ofT rfl rfl (s_sl (sE a G l h1).t1 e1 e2) (fun _ => rfl) (fun _ _ _ z => by cases z)
      · cases h
    · cases h
  | .call f es, C, X, G, x, h => by
    simp only [okE] at h
    split at h
    · rename_i n xs hx
      obtain ⟨p, pos, rfl⟩ := asCall_eq hx
      simp only [Bool.and_eq_true, Bool.not_eq_true'] at h
      obtain ⟨⟨⟨⟨⟨h1, h2⟩, h3⟩, h4⟩, h5⟩, h6⟩ := h
      have hu := user_of G h3
      have ha := sEs es G xs h4
      cases xs with
      | nil =>
        have he : es = [] := by cases es with
          | nil => rfl
          | cons e es => cases e <;> simp [okEs] at h4
        subst he
        exact .ofE rfl rfl rfl (s_call0 hu G.room (G.gl h1) h2) (fun _ => rfl) (fun _ _ _ z => by cases z)
      | cons y ys => exact .ofE rfl rfl rfl (s_call hu G.room (G.gl h1) ha rfl h5 h6 h2) (fun _ => rfl) (fun _ _ _ z => by cases z)
    · cases h
  | .callL f es, C, X, G, x, h => by
    simp only [okE] at h
    split at h
    · rename_i n xs hx
      obtain ⟨p, pos, rfl⟩ := asCall_eq hx
      simp only [Bool.and_eq_true, Bool.not_eq_true'] at h
      obtain ⟨⟨⟨⟨h1, h2⟩, h3⟩, h4⟩, h5⟩ := h
      have hu := user_of G h3
      obtain ⟨ha, hs⟩ := sTs es G xs h4
      cases xs with
      | nil => cases es with
        | nil => cases h5
        | cons e es => simp [okTs] at h4
      | cons y ys => exact .ofE rfl rfl rfl (s_callL hu G.room (G.gl h1) ha rfl hs h2) (fun _ => rfl) (fun _ _ _ z => by cases z)
    · cases h
  | .bi f a, C, X, G, x, h => by
    simp only [okE] at h
    split at h
    · rename_i n y hx
      obtain ⟨p, pos, rfl⟩ := asCall_eq hx
      simp only [Bool.and_eq_true, Bool.not_eq_true'] at h
      obtain ⟨⟨h1, h2⟩, h3⟩ := h
      obtain ⟨rfl, hg, hm⟩ := G.bn h1 (by cases f <;> decide)
      split at h3
      · rename_i hf
        subst hf
        split at h3
        · rename_i n2 z hy
          obtain ⟨p2, pos2, rfl⟩ := asCall_eq hy
          simp only [Bool.and_eq_true, Bool.not_eq_true'] at h3
          obtain ⟨rfl, hg2, hm2⟩ := G.bn h3.1.1 (by decide)
          exact .ofT rfl rfl (s_sset G.calm hg hm hg2 hm2 (sE a G z h3.2).t1 h3.1.2) (fun _ => rfl) no_bool_call
        · cases h3
      · rename_i hf
        obtain ⟨r, hr, hb⟩ := bi_of (x := y) (p := p) (pos := pos) G.calm G.hu hg hm h2 hf
        exact .ofT rfl rfl (s_bi hb hr (sE a G y h3).t1 h2) (fun _ => rfl) no_bool_call
    · cases h
  | .bi2 f a b, C, X, G, x, h => by
    simp only [okE] at h
    split at h
    · rename_i n y z hx
      obtain ⟨p, pos, rfl⟩ := asCall_eq hx
      simp only [Bool.and_eq_true, Bool.or_eq_true, Bool.not_eq_true', decide_eq_true_eq] at h
      obtain ⟨⟨⟨⟨⟨h1, h2⟩, h3⟩, h4⟩, h5⟩, h6⟩ := h
      rcases h2 with rfl | rfl
      · obtain ⟨rfl, hg, hm⟩ := G.bn h1 (by decide)
        exact .ofT rfl rfl (s_bi2 (h := fun i j => if j > i then j else i) (fun t ha => pe_callB (call_max2 G.calm) hg hm boot_max ha (by decide) (by decide) (starEach_cons h5) (any_back (by simp [h6]))) (fun tx ty t e => by
          cases tx <;> cases ty <;> simp [biT2] at e; exact ⟨_, _, rfl, rfl, e.symm⟩) (sE a G y h3).t1 (sE b G z h4).t1 h5 h6) (fun _ => rfl) no_bool_call
      · obtain ⟨rfl, hg, hm⟩ := G.bn h1 (by decide)
        exact .ofT rfl rfl (s_bi2 (h := fun i j => if j < i then j else i) (fun t ha => pe_callB (call_min2 G.calm) hg hm boot_min ha (by decide) (by decide) (starEach_cons h5) (any_back (by simp [h6]))) (fun tx ty t e => by
          cases tx <;> cases ty <;> simp [biT2] at e; exact ⟨_, _, rfl, rfl, e.symm⟩) (sE a G y h3).t1 (sE b G z h4).t1 h5 h6) (fun _ => rfl) no_bool_call
    · cases h
  | .isi a ty, C, X, G, x, h => by
    simp only [okE] at h
    split at h
    · rename_i n y z hx
      obtain ⟨p, pos, rfl⟩ := asCall_eq hx
      simp only [Bool.and_eq_true, Bool.not_eq_true'] at h
      obtain ⟨⟨⟨h1, h2⟩, h3⟩, h4⟩ := h
      split at h4
      · rename_i n2 hz
        obtain ⟨p2, rfl⟩ := asName_eq hz
        obtain ⟨rfl, hg, hm⟩ := G.bn h1 (by decide)
        obtain ⟨rfl, hg2, hm2⟩ := G.bn h4 (by cases ty <;> decide)
        have hb : bootBuiltins (tyN ty) = some (.type (tyN ty)) := by cases ty <;> decide +kernel
        exact .ofT rfl rfl (s_isi (fun t ha => pe_callB call_isi hg hm PyProof.Rows.boot_isinstance ha (by decide) (by decide) (starEach_cons h3) rfl) (pe_bltn hg2 hm2 hb rfl (by cases ty <;> decide) (by cases ty <;> decide)) (sE a G y h2).t1 h3) (fun _ => rfl) no_bool_call
      · cases h4
    · cases h
  | .lrange es, C, X, G, x, h => by
    simp only [okE] at h
    split at h
    · rename_i n y hx
      obtain ⟨p, pos, rfl⟩ := asCall_eq hx
      simp only [Bool.and_eq_true] at h
      obtain ⟨rfl, hg, hm⟩ := G.bn h.1 (by decide)
      have h2 := h.2
      split at h2
      · rename_i n2 z hy
        obtain ⟨p2, pos2, rfl⟩ := asCall_eq hy
        simp only [Bool.and_eq_true, Bool.not_eq_true'] at h2
        obtain ⟨rfl, hg2, hm2⟩ := G.bn h2.1.1 (by decide)
        obtain ⟨e, rfl, he⟩ := sEs1 es G z h2.2
        exact .ofT rfl rfl (s_lrange1 G.calm hg hm hg2 hm2 he h2.1.2) (fun _ => rfl) no_bool_call
      · cases h2
    · cases h
  | .range es, C, X, G, x, h => by
    simp only [okE] at h
    split at h
    · rename_i n z hx
      obtain ⟨p, pos, rfl⟩ := asCall_eq hx
      simp only [Bool.and_eq_true, Bool.not_eq_true'] at h
      obtain ⟨rfl, hg, hm⟩ := G.bn h.1.1 (by decide)
      obtain ⟨e, rfl, he⟩ := sEs1 es G z h.2
      exact .ofT rfl rfl (s_rngV1 (fun t ha => pe_callTy cr_range1 hg hm boot_range ha (by decide) (by decide) (starEach_cons h.1.2) rfl) he h.1.2) (fun _ => rfl) no_bool_call
    · cases h
  | .get o kk, C, X, G, x, h => by
    simp only [okE] at h
    split at h
    · rename_i y mm z hx
      obtain ⟨apos, cpos, rfl, hl⟩ := asMeth_eq hx
      simp only [Bool.and_eq_true, Bool.not_eq_true', decide_eq_true_eq] at h
      obtain ⟨⟨⟨⟨rfl, h2⟩, h3⟩, h4⟩, h5⟩ := h
      have hm1 : M1 X y "get" apos z cpos := ⟨plainB_ok h2, by rw [starEach_cons h5]; rfl, hl, by rw [starEach_cons h5]; rfl⟩
      exact .ofE rfl rfl rfl (s_get G.hu1 hm1 (sE o G y h3).t1 (sE kk G z h4).t0) (fun _ => rfl) no_bool_call
    · cases h
  | .get2 o kk d, C, X, G, x, h => by
    simp only [okE] at h
    split at h
    · rename_i y mm z u hx
      obtain ⟨apos, cpos, rfl, hl⟩ := asMeth_eq hx
      simp only [Bool.and_eq_true, Bool.not_eq_true', decide_eq_true_eq] at h
      obtain ⟨⟨⟨⟨⟨⟨rfl, h2⟩, h3⟩, h4⟩, h5⟩, h6⟩, h7⟩ := h
      have hm2 : M2 X y "get" apos z u cpos := ⟨plainB_ok h2, by rw [starEach_cons h6, starEach_cons h7]; rfl, hl, by rw [starEach_cons h6, starEach_cons h7]; rfl⟩
      exact .ofE rfl rfl rfl (s_get2 G.hu1 hm2 (sE o G y h3).t1 (sE kk G z h4).t0 (sE d G u h5).t0) (fun _ => rfl) no_bool_call
    · cases h
  | .comp elt tg it c own, C, X, G, x, h => by
    simp only [okE] at h
    split at h
    · rename_i ex tx ix ifs scope hx
      obtain ⟨pos, rfl⟩ := asLc_eq hx
      simp only [Bool.and_eq_true, Bool.not_eq_true'] at h
      obtain ⟨⟨⟨⟨⟨h1, h2⟩, h3⟩, h4⟩, h5⟩, h6⟩ := h
      obtain ⟨ok, hfv, htg, ho⟩ := blk_of G h1
      have hi := or_pi (m := true) (fun w => sI it G ix tx w) (fun w => seO G w (sE it G ix w)) h3
      have z := pe_lc (elt := ex) (te := tE X.K Φ elt false) (tt := tB X.K Φ c) (g := gT X.K tg) (pos := pos) (own := ownP' C own) G.calm G.nd hi ok (fun s H Ca cl fp => s_tg (G.blk scope s H Ca cl fp) tg tx h4)
        (fun s H Ca cl fp => ifs_ok (fun y hy => sE c (G.blk scope s H Ca cl fp) y hy) h5) (fun s H Ca cl fp => (sE elt (G.blk scope s H Ca cl fp) ex h6).t0) (folded_ok h2 X.env)
      rw [ho] at z
      exact .ofT rfl rfl (z.imp fun σ H Q q => lc_pure hfv htg q) (fun _ => rfl) (fun _ _ _ z => by cases z)
    · cases h
  | .comp2 elt tg it tg2 it2 own, C, X, G, x, h => by
    simp only [okE] at h
    split at h
    · rename_i ex tx ix tx2 ix2 scope hx
      obtain ⟨pos, rfl⟩ := asLc2_eq hx
      simp only [Bool.and_eq_true, Bool.not_eq_true', List.all_eq_true, decide_eq_true_eq] at h
      obtain ⟨⟨⟨⟨⟨⟨⟨⟨⟨h1, h2⟩, h3⟩, h4⟩, h5⟩, h6⟩, h7⟩, h8⟩, h9⟩, h10⟩ := h
      obtain ⟨ok, hfv, htg, ho⟩ := blk_of G h1
      have hi := or_pi (m := true) (fun w => sI it G ix tx w) (fun w => seO G w (sE it G ix w)) h6
      have z := pe_lc2 (elt := ex) (te := tE X.K Φ elt false) (wi1 := tI X.K Φ it2 true) (g := gT X.K tg) (g1 := gT X.K tg2) (tt := tYes) (tt1 := tYes) (pos := pos) (own := ownP' C own) (vs1 := tgV tg2) G.calm G.nd hi ok (by rw [ho]; exact h3) (fun s H Ca cl fp => s_tg (G.blk scope s H Ca cl fp) tg tx h7) (fun _ _ _ _ _ => pts_nil)
        (fun s H Ca cl fp => or_pi (m := true) (fun w => sI it2 (G.blk scope s H Ca cl fp) ix2 tx2 w) (fun w => seO (G.blk scope s H Ca cl fp) w (sE it2 (G.blk scope s H Ca cl fp) ix2 w)) h8) (fun s H Ca cl fp => s_tg (G.blk scope s H Ca cl fp) tg2 tx2 h9) (fun _ _ _ _ _ => pts_nil) (fun s H Ca cl fp => (sE elt (G.blk scope s H Ca cl fp) ex h10).t0) (folded_ok h4 X.env) (folded_ok h5)
      rw [ho] at z
      exact .ofT rfl rfl (z.imp fun σ H Q q => lc2_pure hfv htg h2 h3 q) (fun _ => rfl) (fun _ _ _ z => by cases z)
    · cases h
  | .dcomp kk v tg it c own, C, X, G, x, h => by
    simp only [okE] at h
    split at h
    · rename_i kx vx tx ix ifs scope hx
      obtain ⟨pos, rfl⟩ := asDc_eq hx
      simp only [Bool.and_eq_true, Bool.not_eq_true'] at h
      obtain ⟨⟨⟨⟨⟨⟨h1, h2⟩, h3⟩, h4⟩, h5⟩, h6⟩, h7⟩ := h
      obtain ⟨ok, hfv, htg, ho⟩ := blk_of G h1
      have hi := or_pi (m := true) (fun w => sI it G ix tx w) (fun w => seO G w (sE it G ix w)) h3
      have z := pe_dc (kx := kx) (vx := vx) (tk := tE X.K Φ kk false) (tv := tE X.K Φ v false) (tt := tB X.K Φ c) (g := gT X.K tg) (pos := pos) (own := ownP' C own) G.calm G.nd hi ok (fun s H Ca cl fp => s_tg (G.blk scope s H Ca cl fp) tg tx h4)
        (fun s H Ca cl fp => ifs_ok (fun y hy => sE c (G.blk scope s H Ca cl fp) y hy) h5) (fun s H Ca cl fp => (sE kk (G.blk scope s H Ca cl fp) kx h6).t0) (fun s H Ca cl fp => (sE v (G.blk scope s H Ca cl fp) vx h7).t0) (folded_ok h2 X.env)
      rw [ho] at z
      exact .ofT rfl rfl (z.imp fun σ H Q q => dc_pure hfv htg q) (fun _ => rfl) (fun _ _ _ z => by cases z)
    · cases h
  | .star e, C, X, G, x, h => by simp [okE] at h
  | .kv a b, C, X, G, x, h => by simp [okE] at h
  | .lots n, C, X, G, x, h => by simp [okE] at h
  | .rev a, C, X, G, x, h => by simp [okE] at h
  | .lvals a, C, X, G, x, h => by simp [okE] at h
  | .index a b, C, X, G, x, h => by simp [okE] at h
  | .compK a b c d e, C, X, G, x, h => by simp [okE] at h
  | .enum a, C, X, G, x, h => by simp [okE] at h
  | .zip a, C, X, G, x, h => by simp [okE] at h
theorem sTs : ∀ (es : List E) {C : Ctx} {X : Cx} (_ : Good Φ C k X) (xs : List Expr), okTs C es xs = true → PA X xs (tOs X.K Φ es) ∧ (xs.all fun x => !isStar x) = true
  | [], C, X, G, xs, h => by
    cases xs with
    | nil => exact ⟨os_nil, rfl⟩
    | cons a b => simp [okTs] at h
  | e :: es, C, X, G, xs, h => by
    cases xs with
    | nil => simp [okTs] at h
    | cons y ys =>
      simp only [okTs, Bool.and_eq_true, Bool.not_eq_true'] at h
      obtain ⟨⟨h1, h2⟩, h3⟩ := h
      obtain ⟨i1, i2⟩ := sTs es G ys h3
      have he := sE e G y h1
      exact ⟨os_cons (seO G h1 he) i1 h2, by simp [h2, i2]⟩
theorem sI : ∀ (e : E) {C : Ctx} {X : Cx} (_ : Good Φ C k X) (x tx : Expr) {m : Bool}, okI C e x tx = true → PI X tx x (tI X.K Φ e m)
  | .range es, C, X, G, x, tx, m, h => by
    simp only [okI] at h
    split at h
    · rename_i n xs hx
      obtain ⟨p, pos, rfl⟩ := asCall_eq hx
      simp only [Bool.and_eq_true, Bool.or_eq_true, decide_eq_true_eq] at h
      obtain ⟨⟨h1, h2⟩, h3⟩ := h
      obtain ⟨rfl, hg, hm⟩ := G.bn h1 (by decide)
      rcases h3 with h3 | h3
      · obtain ⟨y, rfl⟩ := len1 h3
        obtain ⟨e, rfl, he, hs⟩ := sT1 es G y h2
        exact i_range1 hg hm he hs
      · obtain ⟨y, z, rfl⟩ := len2 h3
        obtain ⟨a, b, rfl, ha, hb, hs, hs2⟩ := sT2 es G y z h2
        exact i_range2 hg hm ha hb hs hs2
    · cases h
  | .enum a, C, X, G, x, tx, m, h => by
    simp only [okI] at h
    split at h
    · rename_i n y _ _ _ hx
      obtain ⟨p, pos, rfl⟩ := asCall_eq hx
      simp only [Bool.and_eq_true, Bool.not_eq_true'] at h
      obtain ⟨⟨⟨h1, h2⟩, h3⟩, h4⟩ := h
      obtain ⟨rfl, hg, hm⟩ := G.bn h1 (by decide)
      exact i_enum hg hm (seO G h2 (sE a G y h2)) h3
    · cases h
  | .zip es, C, X, G, x, tx, m, h => by
    simp only [okI] at h
    split at h
    · rename_i n xs _ _ _ hx
      obtain ⟨p, pos, rfl⟩ := asCall_eq hx
      simp only [Bool.and_eq_true, decide_eq_true_eq] at h
      obtain ⟨⟨⟨h1, h2⟩, h3⟩, h4⟩ := h
      obtain ⟨rfl, hg, hm⟩ := G.bn h1 (by decide)
      obtain ⟨y, z, rfl⟩ := len2 h3
      obtain ⟨a, b, rfl, ha, hb, hs, hs2⟩ := sO2 es G y z (m := m) h2
      exact i_zip2 hg hm ha hb hs hs2
    · cases h
  | .var _, C, X, G, x, tx, m, h => by simp [okI] at h
  | .cI _, C, X, G, x, tx, m, h => by simp [okI] at h
  | .cS _, C, X, G, x, tx, m, h => by simp [okI] at h
  | .cB _, C, X, G, x, tx, m, h => by simp [okI] at h
  | .cN, C, X, G, x, tx, m, h => by simp [okI] at h
  | .bin _ _ _, C, X, G, x, tx, m, h => by simp [okI] at h
  | .cmp _ _ _, C, X, G, x, tx, m, h => by simp [okI] at h
  | .isN _ _, C, X, G, x, tx, m, h => by simp [okI] at h
  | .isB _ _ _, C, X, G, x, tx, m, h => by simp [okI] at h
  | .ch _ _ _ _ _, C, X, G, x, tx, m, h => by simp [okI] at h
  | .neg _, C, X, G, x, tx, m, h => by simp [okI] at h
  | .not _, C, X, G, x, tx, m, h => by simp [okI] at h
  | .and _ _, C, X, G, x, tx, m, h => by simp [okI] at h
  | .or _ _, C, X, G, x, tx, m, h => by simp [okI] at h
  | .ite _ _ _, C, X, G, x, tx, m, h => by simp [okI] at h
  | .tup _, C, X, G, x, tx, m, h => by simp [okI] at h
  | .lst _, C, X, G, x, tx, m, h => by simp [okI] at h
  | .star _, C, X, G, x, tx, m, h => by simp [okI] at h
  | .kv _ _, C, X, G, x, tx, m, h => by simp [okI] at h
  | .dct _, C, X, G, x, tx, m, h => by simp [okI] at h
  | .dctS _ _, C, X, G, x, tx, m, h => by simp [okI] at h
  | .lots _, C, X, G, x, tx, m, h => by simp [okI] at h
  | .ptup0, C, X, G, x, tx, m, h => by simp [okI] at h
  | .idx _ _, C, X, G, x, tx, m, h => by simp [okI] at h
  | .sl _ _ _, C, X, G, x, tx, m, h => by simp [okI] at h
  | .rev _, C, X, G, x, tx, m, h => by simp [okI] at h
  | .call _ _, C, X, G, x, tx, m, h => by simp [okI] at h
  | .bi _ _, C, X, G, x, tx, m, h => by simp [okI] at h
  | .bi2 _ _ _, C, X, G, x, tx, m, h => by simp [okI] at h
  | .isi _ _, C, X, G, x, tx, m, h => by simp [okI] at h
  | .lrange _, C, X, G, x, tx, m, h => by simp [okI] at h
  | .callL _ _, C, X, G, x, tx, m, h => by simp [okI] at h
  | .lvals _, C, X, G, x, tx, m, h => by simp [okI] at h
  | .get _ _, C, X, G, x, tx, m, h => by simp [okI] at h
  | .get2 _ _ _, C, X, G, x, tx, m, h => by simp [okI] at h
  | .index _ _, C, X, G, x, tx, m, h => by simp [okI] at h
  | .comp _ _ _ _ _, C, X, G, x, tx, m, h => by simp [okI] at h
  | .comp2 _ _ _ _ _ _, C, X, G, x, tx, m, h => by simp [okI] at h
  | .compK _ _ _ _ _, C, X, G, x, tx, m, h => by simp [okI] at h
  | .dcomp _ _ _ _ _ _, C, X, G, x, tx, m, h => by simp [okI] at h
theorem sT1 : ∀ (es : List E) {C : Ctx} {X : Cx} (_ : Good Φ C k X) (x : Expr), okTs C es [x] = true → ∃ e, es = [e] ∧ PE X x (tE X.K Φ e true) ∧ isStar x = false
  | [], C, X, G, x, h => by simp [okTs] at h
  | [e], C, X, G, x, h => by
    simp only [okTs, Bool.and_eq_true, Bool.not_eq_true'] at h
    exact ⟨e, rfl, (sE e G x h.1.1).t1, h.1.2⟩
  | _ :: _ :: _, C, X, G, x, h => by simp [okTs] at h
theorem sT2 : ∀ (es : List E) {C : Ctx} {X : Cx} (_ : Good Φ C k X) (x y : Expr), okTs C es [x, y] = true → ∃ a b, es = [a, b] ∧ PE X x (tE X.K Φ a true) ∧ PE X y (tE X.K Φ b true) ∧ isStar x = false ∧ isStar y = false
  | [], C, X, G, x, y, h => by simp [okTs] at h
  | [e], C, X, G, x, y, h => by simp [okTs] at h
  | [a, b], C, X, G, x, y, h => by
    simp only [okTs, Bool.and_eq_true, Bool.not_eq_true'] at h
    exact ⟨a, b, rfl, (sE a G x h.1.1).t1, (sE b G y h.2.1.1).t1, h.1.2, h.2.1.2⟩
  | _ :: _ :: _ :: _, C, X, G, x, y, h => by simp [okTs] at h
theorem sO2 : ∀ (es : List E) {C : Ctx} {X : Cx} (_ : Good Φ C k X) (x y : Expr) {m : Bool}, okTs C es [x, y] = true → ∃ a b, es = [a, b] ∧ PE X x (tO X.K Φ a m) ∧ PE X y (tO X.K Φ b m) ∧ isStar x = false ∧ isStar y = false
  | [], C, X, G, x, y, m, h => by simp [okTs] at h
  | [e], C, X, G, x, y, m, h => by simp [okTs] at h
  | [a, b], C, X, G, x, y, m, h => by
    simp only [okTs, Bool.and_eq_true, Bool.not_eq_true'] at h
    exact ⟨a, b, rfl, seO G h.1.1 (sE a G x h.1.1), seO G h.2.1.1 (sE b G y h.2.1.1), h.1.2, h.2.1.2⟩
  | _ :: _ :: _ :: _, C, X, G, x, y, m, h => by simp [okTs] at h
theorem sEs1 : ∀ (es : List E) {C : Ctx} {X : Cx} (_ : Good Φ C k X) (x : Expr), okEs1 C es x = true → ∃ e, es = [e] ∧ PE X x (tE X.K Φ e true)
  | [], C, X, G, x, h => by simp [okEs1] at h
  | [e], C, X, G, x, h => by
    simp only [okEs1] at h
    exact ⟨e, rfl, (sE e G x h).t1⟩
  | _ :: _ :: _, C, X, G, x, h => by simp [okEs1] at h
theorem sD : ∀ (ds : List E) {C : Ctx} {X : Cx} (_ : Good Φ C k X) {pos : Pos} (ks : List (Option Expr)) (vs : List Expr), okD C ds ks vs = true → PPs X pos ks vs (trsOf X.K Φ ds) ∧ ks.all (·.isSome) = true ∧ ks.length = vs.length
  | [], C, X, G, pos, ks, vs, h => by
    cases ks <;> cases vs <;> first | (simp [okD] at h; done) | exact ⟨pps_nil, rfl, rfl⟩
  | d :: ds, C, X, G, pos, ks, vs, h => by
    cases d <;> first | (simp [okD] at h; done) | skip
    rename_i a b
    cases ks with
    | nil => simp [okD] at h
    | cons q ks => cases q with
      | none => simp [okD] at h
      | some kx => cases vs with
        | nil => simp [okD] at h
        | cons vx vs =>
          simp only [okD, Bool.and_eq_true] at h
          obtain ⟨i1, i2, i3⟩ := sD ds G (pos := pos) ks vs h.2
          exact ⟨pps_cons (sE a G kx h.1.1).t0 (sE b G vx h.1.2).t0 i1, by simp [i2], by simp [i3]⟩
theorem sEs : ∀ (es : List E) {C : Ctx} {X : Cx} (_ : Good Φ C k X) (xs : List Expr), okEs C es xs = true → PA X xs (tEs X.K Φ es)
  | [], C, X, G, xs, h => by
    cases xs with
    | nil => exact s_nil
    | cons a b => cases h
  | e :: es, C, X, G, xs, h => by
    cases xs with
    | nil => cases e <;> cases h
    | cons y ys =>
      by_cases hs : ∃ e', e = .star e'
      · obtain ⟨e', rfl⟩ := hs
        simp only [okEs, Bool.and_eq_true] at h
        obtain ⟨h1, h2⟩ := h
        split at h1
        · exact s_star (sE e' G _ h1).t1 (sEs es G ys h2)
        · cases h1
      · have hn : isStarE e = false := by cases e <;> first | rfl | exact absurd ⟨_, rfl⟩ hs
        have h' : (okE C e y && !isStar y && okEs C es ys) = true := by
          cases e <;> first | exact h | (cases hn; done)
        simp only [Bool.and_eq_true, Bool.not_eq_true'] at h'
        exact s_cons (sE e G y h'.1.1).t0 (sEs es G ys h'.2) h'.1.2 hn
end
end
end Gh
set_option linter.all false
set_option maxRecDepth 100000
set_option maxHeartbeats 2000000
namespace Gh
open PySem PySem.Spec PyProof.Rows L2

/-! ### shapes of statements -/
def asAsg : Stmt → Option (Expr × Expr × Nat)
  | .Assign [t] v pos => some (t, v, pos.line)
  | _ => none
theorem asAsg_eq {st : Stmt} {t v : Expr} {l : Nat} (h : asAsg st = some (t, v, l)) : ∃ pos, st = .Assign [t] v pos ∧ pos.line = l := by
  unfold asAsg at h; split at h <;> cases h; exact ⟨_, rfl, rfl⟩
def asAug : Stmt → Option (Expr × Operator × Expr)
  | .AugAssign t op v _ => some (t, op, v)
  | _ => none
theorem asAug_eq {st : Stmt} {t v : Expr} {op : Operator} (h : asAug st = some (t, op, v)) : ∃ pos, st = .AugAssign t op v pos := by
  unfold asAug at h; split at h <;> cases h; exact ⟨_, rfl⟩
/-- x.m(e) as a statement -/
def asMs : Stmt → Option (Str × Str × Expr)
  | .Expr (.Call (.Attribute (.Name n _) m apos) [e] [] cpos) _ => if apos.endLine == cpos.line then some (n, m, e) else none
  | _ => none
theorem asMs_eq {st : Stmt} {n m : Str} {e : Expr} (h : asMs st = some (n, m, e)) : ∃ p apos cpos pos, st = .Expr (.Call (.Attribute (.Name n p) m apos) [e] [] cpos) pos ∧ (apos.endLine == cpos.line) = true := by
  unfold asMs at h
  split at h
  · split at h
    · rename_i hl; cases h; exact ⟨_, _, _, _, rfl, hl⟩
    · cases h
  · cases h
def asRet : Stmt → Option (Option Expr)
  | .Return v _ => some v
  | _ => none
theorem asRet_eq {st : Stmt} {v : Option Expr} (h : asRet st = some v) : ∃ pos, st = .Return v pos := by
  unfold asRet at h; split at h <;> cases h; exact ⟨_, rfl⟩
def asIfS : Stmt → Option (Expr × List Stmt × List Stmt)
  | .If c a b _ => some (c, a, b)
  | _ => none
theorem asIfS_eq {st : Stmt} {c : Expr} {a b : List Stmt} (h : asIfS st = some (c, a, b)) : ∃ pos, st = .If c a b pos := by
  unfold asIfS at h; split at h <;> cases h; exact ⟨_, rfl⟩
def asFor : Stmt → Option (Expr × Expr × List Stmt)
  | .For t i b [] _ => some (t, i, b)
  | _ => none
theorem asFor_eq {st : Stmt} {t i : Expr} {b : List Stmt} (h : asFor st = some (t, i, b)) : ∃ pos, st = .For t i b [] pos := by
  unfold asFor at h; split at h <;> cases h; exact ⟨_, rfl⟩
/-! ### a comprehension that is stored on its own line -/
def compScope : Expr → Option Scope
  | .ListComp _ _ s _ => some s
  | .SetComp _ _ s _ => some s
  | .DictComp _ _ _ s _ => some s
  | _ => none
def funB (C : Ctx) : Bool := decide (C.sc.kind = .function)
/-- what `swapsWith` says of name = value -/
def swB (C : Ctx) (n : Str) (pl : Nat) (v : Expr) : Bool := match compScope v with
  | none => false
  | some s => localB C n && (pl == v.pos.line) && !(s.names.any fun (m, k) => m == n && (k == .local || k == .cell))
theorem sw_ok {Φ : String → List T → Src → Option (T × Src)} {k : Nat} {C : Ctx} {X : Cx} (G : Good Φ C k X) (hf : funB C = true) {n : Str} {p : Pos} {v : Expr} {l : Nat} : swapsWith v (some (.Name n p)) l X.env = pure (swB C n p.line v) := by
  have hk : X.env.blockKind = .function := by
    unfold Env.blockKind
    rw [G.sc, of_decide_eq_true hf]; rfl
  have hl : (X.env.kindOf n == some .local) = localB C n := by
    unfold localB
    show (X.env.scope.names.lookup n == _) = _
    rw [G.sc]
    cases h : C.sc.names.lookup n with
    | none => rfl
    | some q => cases q <;> rfl
  unfold swapsWith swB compScope
  cases v <;> first | rfl | (simp only [hk, hl]; rfl)
end Gh
set_option linter.all false
set_option maxRecDepth 100000
set_option maxHeartbeats 2000000
namespace Gh
open PySem PySem.Spec PyProof.Rows L2
def stB : Expr → Bool
  | .Starred _ _ => true
  | _ => false
theorem sw2 {env : Env} {x y : Str} {px py pt pt2 : Pos} {kt k2 : Nat} {a b : Expr} (hk : env.blockKind = .function) (hx : env.kindOf x = some .local) (hy : env.kindOf y = some .local) (hl : px.line = py.line) (hn : x ≠ y)
    (ha : isStar a = false) (hb : isStar b = false) (hf : [a, b].all (foldedForSure 8) = false) (hc : [a, b].all (constantsAlone 8) = false) :
    swappedStores [.Tuple [.Name x px, .Name y py] kt pt] (.Tuple [a, b] k2 pt2) env = pure (some [x, y]) := by
  unfold swappedStores
  simp only [hk, hf, hc, hx, hy, hl, List.filterMap_cons, List.filterMap_nil, List.head?, Option.map, Option.getD, Expr.pos]
  have e : ([x, y].eraseDups.length) = 2 := by
    have h1 : (y == x) = false := by simpa using fun z => hn z.symm
    simp [List.eraseDups_cons, h1]
  simp [e]
  intro h
  exfalso
  rcases h with h | h
  · cases a <;> first | (cases ha; done) | (cases h; done)
  · cases b <;> first | (cases hb; done) | (cases h; done)
theorem sw3 {env : Env} {x y z : Str} {px py pz pt pt2 : Pos} {kt k2 : Nat} {a b c : Expr} (hk : env.blockKind = .function) (hx : env.kindOf x = some .local) (hy : env.kindOf y = some .local) (hz : env.kindOf z = some .local) (hl : px.line = py.line) (hl2 : px.line = pz.line) (hn : x ≠ y) (hn2 : x ≠ z) (hn3 : y ≠ z)
    (ha : isStar a = false) (hb : isStar b = false) (hc' : isStar c = false) (hf : [a, b, c].all (foldedForSure 8) = false) (hc : [a, b, c].all (constantsAlone 8) = false) :
    swappedStores [.Tuple [.Name x px, .Name y py, .Name z pz] kt pt] (.Tuple [a, b, c] k2 pt2) env = pure (some [x, y, z]) := by
  unfold swappedStores
  have l2 : py.line = pz.line := hl.symm.trans hl2
  simp only [hk, hf, hc, hx, hy, hz, hl, l2, List.filterMap_cons, List.filterMap_nil, List.head?, Option.map, Option.getD, Expr.pos]
  have e : ([x, y, z].eraseDups.length) = 3 := by
    have h1 : (y == x) = false := by simpa using fun z => hn z.symm
    have h2 : (z == x) = false := by simpa using fun z => hn2 z.symm
    have h3 : (z == y) = false := by simpa using fun z => hn3 z.symm
    simp [List.eraseDups_cons, h1, h2, h3]
  simp [e]
  intro h
  exfalso
  rcases h with h | h | h
  · cases a <;> first | (cases ha; done) | (cases h; done)
  · cases b <;> first | (cases hb; done) | (cases h; done)
  · cases c <;> first | (cases hc'; done) | (cases h; done)

def okFs (C : Ctx) : List E → List Expr → Bool
  | [], [] => true
  | e :: es, x :: xs => okE C e x && !isStar x && !isLots e && okFs C es xs
  | _, _ => false
/-- a, b = x, y: names on one line -/
def okPar (C : Ctx) : List TgS → List E → Stmt → Bool
  | [.var i, .var j], es, st => (match asAsg st with
    | some (.Tuple [.Name x px, .Name y py] _ _, .Tuple [a, b] _ _, _) => funB C && okFs C es [a, b] && stoB C i x && stoB C j y && localB C x && localB C y && decide (px.line = py.line) && decide (x ≠ y) && decide (i ≠ j) && ([a, b].all (foldedForSure 8) == false) && ([a, b].all (constantsAlone 8) == false)
    | _ => false)
  | [.var i, .var j, .var l], es, st => (match asAsg st with
    | some (.Tuple [.Name x px, .Name y py, .Name z pz] _ _, .Tuple [a, b, c] _ _, _) => funB C && okFs C es [a, b, c] && stoB C i x && stoB C j y && stoB C l z && localB C x && localB C y && localB C z && decide (px.line = py.line) && decide (px.line = pz.line) && decide (x ≠ y) && decide (x ≠ z) && decide (y ≠ z) && decide (i ≠ j) && decide (i ≠ l) && decide (j ≠ l) &&
        ([a, b, c].all (foldedForSure 8) == false) && ([a, b, c].all (constantsAlone 8) == false)
    | _ => false)
  | _, _, _ => false
section
variable {Φ : String → List T → Src → Option (T × Src)} {k : Nat} {C : Ctx} {X : Cx}
theorem sFs (G : Good Φ C k X) : ∀ (es : List E) (xs : List Expr), okFs C es xs = true → PA X xs (tFs X.K Φ es) ∧ (xs.all fun x => !isStar x) = true
  | [], [], h => ⟨fs_nil, rfl⟩
  | [], _ :: _, h => by simp [okFs] at h
  | _ :: _, [], h => by simp [okFs] at h
  | e :: es, x :: xs, h => by
    simp only [okFs, Bool.and_eq_true, Bool.not_eq_true'] at h
    obtain ⟨⟨⟨h1, h2⟩, h3⟩, h4⟩ := h
    obtain ⟨i1, i2⟩ := sFs G es xs h4
    have he := sE e G x h1
    have hn : isStarE e = false := by cases e <;> first | rfl | (simp [okE] at h1; done)
    refine ⟨?_, by simp [h2, i2]⟩
    cases hf : freshE e with
    | true => exact fs_fr hf h3 (he.f hf) i1 h2 hn
    | false => exact fs_sh hf h3 he.t0 i1 h2 hn
theorem okFs_len : ∀ {es : List E} {xs : List Expr}, okFs C es xs = true → es.length = xs.length
  | [], [], _ => rfl
  | [], _ :: _, h => by simp [okFs] at h
  | _ :: _, [], h => by simp [okFs] at h
  | e :: es, x :: xs, h => by
    simp only [okFs, Bool.and_eq_true] at h
    simp [okFs_len h.2]
theorem Good.bk (G : Good Φ C k X) (hf : funB C = true) : X.env.blockKind = .function := by
  unfold Env.blockKind
  rw [G.sc, of_decide_eq_true hf]; rfl
theorem Good.lo (G : Good Φ C k X) {x : Str} (h : localB C x = true) : X.env.scope.names.lookup x = some .local := by
  rw [G.sc]; exact of_decide_eq_true h
theorem sPar (G : Good Φ C k X) {ts : List TgS} {es : List E} {st : Stmt} (h : okPar C ts es st = true) : PS X st (tSt X.K Φ (.asgs ts es)) := by
  unfold okPar at h
  split at h
  · rename_i i j
    split at h
    · rename_i x px y py kt pt a b k2 pt2 l hx
      obtain ⟨pos, rfl, rfl⟩ := asAsg_eq hx
      simp only [Bool.and_eq_true, decide_eq_true_eq, beq_iff_eq] at h
      obtain ⟨⟨⟨⟨⟨⟨⟨⟨⟨⟨h1, h2⟩, h3⟩, h4⟩, h5⟩, h6⟩, h7⟩, h8⟩, h9⟩, h10⟩, h11⟩ := h
      obtain ⟨ha, hs⟩ := sFs G es [a, b] h2
      simp only [List.all_cons, List.all_nil, Bool.and_true, Bool.and_eq_true, Bool.not_eq_true'] at hs
      obtain ⟨e1, e2, rfl⟩ := len2 (show es.length = 2 from okFs_len h2)
      exact p_par2 (ps_par G.calm G.nd (sto_ok G h3).1 (sto_ok G h4).1 h9 (G.lo h5) (G.lo h6) ha (sw2 (G.bk h1) (G.lo h5) (G.lo h6) h7 h8 hs.1 hs.2 h10 h11) rfl)
    · cases h
  · rename_i i j l
    split at h
    · rename_i x px y py z pz kt pt a b c k2 pt2 ln hx
      obtain ⟨pos, rfl, rfl⟩ := asAsg_eq hx
      simp only [Bool.and_eq_true, decide_eq_true_eq, beq_iff_eq] at h
      obtain ⟨⟨⟨⟨⟨⟨⟨⟨⟨⟨⟨⟨⟨⟨⟨⟨⟨h1, h2⟩, h3⟩, h4⟩, h5⟩, h6⟩, h7⟩, h8⟩, h9⟩, h10⟩, h11⟩, h12⟩, h13⟩, h14⟩, h15⟩, h16⟩, h17⟩, h18⟩ := h
      obtain ⟨ha, hs⟩ := sFs G es [a, b, c] h2
      simp only [List.all_cons, List.all_nil, Bool.and_true, Bool.and_eq_true, Bool.not_eq_true'] at hs
      obtain ⟨e1, e2, e3, rfl⟩ := len3 (show es.length = 3 from okFs_len h2)
      exact p_par3 (ps_par3 G.calm G.nd (sto_ok G h3).1 (sto_ok G h4).1 (sto_ok G h5).1 h14 h15 h16 (G.lo h6) (G.lo h7) (G.lo h8) ha (sw3 (G.bk h1) (G.lo h6) (G.lo h7) (G.lo h8) h9 h10 h11 h12 h13 hs.1 hs.2.1 hs.2.2 h17 h18) rfl)
    · cases h
  · cases h
/-- name = [..] on one line, the name a local -/
def isLcE : E → Bool
  | .comp _ _ _ _ _ => true
  | .comp2 _ _ _ _ _ _ => true
  | _ => false
theorem s_swap (G : Good Φ C k X) {j : Nat} {n : Str} {p pos : Pos} {e : E} {v : Expr} (hfun : funB C = true) (h2 : stoB C j n = true) (hlc : isLcE e = true) (h : okE C e v = true) (h5 : swB C n p.line v = true) : PS X (.Assign [.Name n p] v pos) (tAsg (tF X.K Φ e) (gName j)) := by
  have hsw : swapsWith v (some (.Name n p)) pos.line X.env = pure true := by rw [sw_ok G hfun, h5]
  have hloc : localB C n = true := by
    unfold swB at h5
    split at h5
    · cases h5
    · simp only [Bool.and_eq_true] at h5
      exact h5.1.1
  cases e <;> first | (cases hlc; done) | skip
  · rename_i elt tg it c own
    simp only [okE] at h
    split at h
    · rename_i ex tx ix ifs scope hx
      obtain ⟨pos2, rfl⟩ := asLc_eq hx
      simp only [Bool.and_eq_true, Bool.not_eq_true'] at h
      obtain ⟨⟨⟨⟨⟨h1, h2'⟩, h3⟩, h4⟩, h5'⟩, h6⟩ := h
      obtain ⟨ok, hfv, htg, ho⟩ := blk_of G h1
      have hi := or_pi (m := true) (fun w => sI it G ix tx w) (fun w => seO G w (sE it G ix w)) h3
      have z := ps_setLc (elt := ex) (te := tE X.K Φ elt false) (tt := tB X.K Φ c) (g := gT X.K tg) (pos := pos2) (own := ownP' C own) G.calm G.nd (sto_ok G h2).1 (G.lo hloc) hsw hi ok (fun s H Ca cl fp => s_tg (G.blk scope s H Ca cl fp) tg tx h4)
        (fun s H Ca cl fp => ifs_ok (fun y hy => sE c (G.blk scope s H Ca cl fp) y hy) h5') (fun s H Ca cl fp => (sE elt (G.blk scope s H Ca cl fp) ex h6).t0) (folded_ok h2' X.env)
      rw [ho] at z
      exact z.imp fun D σ H q => lc_pure hfv htg q
    · cases h
  · rename_i elt tg it tg2 it2 own
    simp only [okE] at h
    split at h
    · rename_i ex tx ix tx2 ix2 scope hx
      obtain ⟨pos2, rfl⟩ := asLc2_eq hx
      simp only [Bool.and_eq_true, Bool.not_eq_true', List.all_eq_true, decide_eq_true_eq] at h
      obtain ⟨⟨⟨⟨⟨⟨⟨⟨⟨h1, h2'⟩, h3⟩, h4⟩, h5'⟩, h6⟩, h7⟩, h8⟩, h9⟩, h10⟩ := h
      obtain ⟨ok, hfv, htg, ho⟩ := blk_of G h1
      have hi := or_pi (m := true) (fun w => sI it G ix tx w) (fun w => seO G w (sE it G ix w)) h6
      have z := ps_setLc2 (elt := ex) (te := tE X.K Φ elt false) (wi1 := tI X.K Φ it2 true) (g := gT X.K tg) (g1 := gT X.K tg2) (tt := tYes) (tt1 := tYes) (pos := pos2) (own := ownP' C own) (vs1 := tgV tg2) G.calm G.nd (sto_ok G h2).1 (G.lo hloc) hsw hi ok (by rw [ho]; exact h3) (fun s H Ca cl fp => s_tg (G.blk scope s H Ca cl fp) tg tx h7) (fun _ _ _ _ _ => pts_nil)
        (fun s H Ca cl fp => or_pi (m := true) (fun w => sI it2 (G.blk scope s H Ca cl fp) ix2 tx2 w) (fun w => seO (G.blk scope s H Ca cl fp) w (sE it2 (G.blk scope s H Ca cl fp) ix2 w)) h8) (fun s H Ca cl fp => s_tg (G.blk scope s H Ca cl fp) tg2 tx2 h9) (fun _ _ _ _ _ => pts_nil) (fun s H Ca cl fp => (sE elt (G.blk scope s H Ca cl fp) ex h10).t0) (folded_ok h4 X.env) (folded_ok h5')
      rw [ho] at z
      exact z.imp fun D σ H q => lc2_pure hfv htg h2' h3 q
    · cases h
end
theorem sw3n {env : Env} {x y z : Str} {px py pz pt pt2 : Pos} {kt k2 : Nat} {a b c : Expr} (hn : (env.kindOf x == some .local && env.kindOf y == some .local && env.kindOf z == some .local && py.line == px.line && pz.line == px.line) = false) :
    swappedStores [.Tuple [.Name x px, .Name y py, .Name z pz] kt pt] (.Tuple [a, b, c] k2 pt2) env = pure none := by
  unfold swappedStores
  simp only [List.filterMap_cons, List.filterMap_nil, List.head?, Option.map, Option.getD, Expr.pos]
  rcases Bool.eq_false_or_eq_true (env.kindOf x == some .local) with h1 | h1 <;> rcases Bool.eq_false_or_eq_true (env.kindOf y == some .local) with h2 | h2 <;> rcases Bool.eq_false_or_eq_true (env.kindOf z == some .local) with h3 | h3 <;>
    rcases Bool.eq_false_or_eq_true (py.line == px.line) with h4 | h4 <;> rcases Bool.eq_false_or_eq_true (pz.line == px.line) with h5 | h5 <;> first | (simp only [h1, h2, h3, h4, h5, Bool.and_true, Bool.and_false, Bool.false_and, Bool.true_and, reduceCtorEq] at hn; done) | (simp only [h1, h2, h3, h4, h5, beq_self_eq_true, Bool.and_true, Bool.and_false, Bool.false_and, Bool.true_and, if_true, Bool.false_eq_true, if_false, List.length]; repeat (first | rfl | split))

/-- a, b, c = x, y, z by way of a tuple -/
def okParT (C : Ctx) : List TgS → List E → Stmt → Bool
  | [.var i, .var j, .var l], es, st => (match asAsg st with
    | some (.Tuple [.Name x px, .Name y py, .Name z pz] _ _, .Tuple [a, b, c] _ _, _) => okFs C es [a, b, c] && stoB C i x && stoB C j y && stoB C l z && !(localB C x && localB C y && localB C z && py.line == px.line && pz.line == px.line)
    | _ => false)
  | _, _, _ => false
section
variable {Φ : String → List T → Src → Option (T × Src)} {k : Nat} {C : Ctx} {X : Cx}
theorem Good.kl (G : Good Φ C k X) (n : Str) : (X.env.kindOf n == some .local) = localB C n := by
  unfold localB
  show (X.env.scope.names.lookup n == _) = _
  rw [G.sc]
  cases h : C.sc.names.lookup n with
  | none => rfl
  | some q => cases q <;> rfl
theorem sParT (G : Good Φ C k X) {ts : List TgS} {es : List E} {st : Stmt} (h : okParT C ts es st = true) : PS X st (tSt X.K Φ (.asgs ts es)) := by
  unfold okParT at h
  split at h
  · rename_i i j l
    split at h
    · rename_i x px y py z pz kt pt a b c k2 pt2 ln hx
      obtain ⟨pos, rfl, rfl⟩ := asAsg_eq hx
      simp only [Bool.and_eq_true, Bool.not_eq_true'] at h
      obtain ⟨⟨⟨⟨h2, h3⟩, h4⟩, h5⟩, h6⟩ := h
      obtain ⟨ha, hs⟩ := sFs G es [a, b, c] h2
      have ht : okTgs C ([i, j, l].map Tg.var) [.Name x px, .Name y py, .Name z pz] = true := by simp [okTgs, okTg, isStar, h3, h4, h5]
      obtain ⟨l1, l2⟩ := okTgs_len (X := X) _ _ ht
      have hw : swappedStores [.Tuple [.Name x px, .Name y py, .Name z pz] kt pt] (.Tuple [a, b, c] k2 pt2) X.env = pure none := sw3n (by rw [G.kl, G.kl, G.kl]; exact h6)
      exact p_parT (js := [i, j, l]) (by rw [okFs_len h2]; simp) (ps_asg (pe_tup ha) (pg_tup (n := [i, j, l].length) G.calm (pgs_names G [i, j, l] _ ht) (by rw [l1]; rfl) l2) rfl hw rfl)
    · cases h
  · cases h
end
end Gh
set_option linter.all false
set_option maxRecDepth 100000
set_option maxHeartbeats 4000000
namespace Gh
open PySem PySem.Spec PyProof.Rows L2

def isCompE : Expr → Bool
  | .ListComp _ _ _ _ => true
  | .SetComp _ _ _ _ => true
  | .DictComp _ _ _ _ _ => true
  | _ => false
def augB : Op → Operator → Bool
  | .add, .Add => true
  | .sub, .Sub => true
  | _, _ => false
mutual
def okS (C : Ctx) : S → Stmt → Bool
  | .asg (.var j) e, st => (match asAsg st with
    | some (.Name n p, v, l) => funB C && stoB C j n && okE C e v && !isLots e && (!swB C n p.line v || isLcE e)
    | _ => false)
  | .asg (.tup ts) e, st => (match asAsg st with
    | some (tx, v, l) => okTg C (.tup ts) tx && okE C e v && !isCompE v && (asTup v).isNone
    | _ => false)
  | .set i b a, st => (match asAsg st with
    | some (.Subscript (.Name n _) kx _, v, l) => visB C i n && okE C b kx && okE C a v && !isCompE v && !isSlice kx
    | _ => false)
  | .aug i o a, st => (match asAug st with
    | some (.Name n _, op, v) => stoB C i n && augB o op && okE C a v
    | _ => false)
  | .augset i b o a, st => (match asAug st with
    | some (.Subscript (.Name n _) kx _, op, v) => visB C i n && okE C b kx && !isSlice kx && augB o op && okE C a v
    | _ => false)
  | .app i a, st => (match asMs st with
    | some (n, m, e) => decide (m = "append") && visB C i n && okE C a e && !isStar e
    | _ => false)
  | .ext i a, st => (match asMs st with
    | some (n, m, e) => decide (m = "extend") && visB C i n && okE C a e && !isStar e
    | _ => false)
  | .upd i a, st => (match asMs st with
    | some (n, m, e) => decide (m = "update") && visB C i n && okE C a e && !isStar e && freshE a && !isLots a
    | _ => false)
  | .ret e, st => (match asRet st with
    | some (some v) => okE C e v
    | _ => false)
  | .retN, st => (match asRet st with
    | some none => true
    | _ => false)
  | .ite c a b, st => (match asIfS st with
    | some (cx, u, v) => okE C c cx && okSs C a u && okSs C b v
    | _ => false)
  | .for_ tg it body, st => (match asFor st with
    | some (tx, ix, u) => okTg C tg tx && (okI C it ix tx || okE C it ix) && !isSetE ix && okSs C body u
    | _ => false)
  | .forK tg i body, st => (match asFor st with
    | some (tx, .Name n _, u) => okTg C tg tx && visB C i n && okSs C body u
    | _ => false)
  | .cont, st => (match st with | .Continue _ => true | _ => false)
  | .brk, st => (match st with | .Break _ => true | _ => false)
  | .pass, st => (match st with | .Pass _ => true | .Expr (.Constant (.str _) _ _) _ => true | _ => false)
  | .never, _ => true
  | .asgs ts es, st => okPar C ts es st || okParT C ts es st
  | _, _ => false
def okSs (C : Ctx) : List S → List Stmt → Bool
  | [], [] => true
  | .share i :: r, sts => okSs C r sts
  | s :: r, st :: sts => okS C s st && okSs C r sts
  | _, _ => false
end
section
variable {Φ : String → List T → Src → Option (T × Src)} {k : Nat} {C : Ctx} {X : Cx}
theorem aug_of {o : Op} {op : Operator} (h : augB o op = true) : ∃ ti, PIp X op ti ∧ IntOp X.K o ti := by
  cases o <;> cases op <;> first | (cases h; done) | skip
  · exact ⟨_, iop_add, int_add⟩
  · exact ⟨_, iop_sub, int_sub⟩
theorem aug_str {i : Expr} (h : isSlice i = false) : ∀ ov iv new, augStore i ov iv new = (do holding [new, ov, iv] (setItem ov iv new); release [new, ov, iv] []; pure .next) := by
  intro ov iv new
  cases i <;> first | rfl | cases h
theorem asg_sub {o i : Expr} {pos : Pos} {env : Env} (h : isSlice i = false) : ∀ v, assign (.Subscript o i pos) env v = (do
      let ov ← holding [v] (eval o env)
      let iv ← holding [v, ov] (eval i env)
      standAt pos
      holding [v, ov, iv] (setItem ov iv v)
      release [v, ov, iv] []) := by
  intro v
  cases i <;> first | rfl | cases h
theorem nsw_pure {v : Expr} {t : Option Expr} {l : Nat} {env : Env} (h : isCompE v = false) : swapsWith v t l env = pure false := by
  unfold swapsWith
  cases v <;> first | rfl | cases h
mutual
theorem sS : ∀ (s : S) (_ : Good Φ C k X) (st : Stmt), okS C s st = true → PS X st (tSt X.K Φ s)
  | .asg (.var j) e, G, st, h => by
    simp only [okS] at h
    split at h
    · rename_i n p v l hx
      obtain ⟨pos, rfl, rfl⟩ := asAsg_eq hx
      simp only [Bool.and_eq_true, Bool.not_eq_true'] at h
      obtain ⟨⟨⟨⟨h1, h2⟩, h3⟩, h4⟩, h5⟩ := h
      obtain ⟨i1, i2, i3⟩ := sto_ok G h2
      have he := sE e G v h3
      cases hsw : swB C n p.line v with
      | true =>
        rw [hsw] at h5
        have h5 : isLcE e = true := by simpa using h5
        have hf : freshE e = true := by cases e <;> first | rfl | cases h5
        exact p_asgF hf h4 (s_swap G h1 h2 h5 h3 hsw)
      | false =>
      have hs : swapsWith v (some (.Name n p)) pos.line X.env = pure false := by rw [sw_ok G h1, hsw]
      cases hf : freshE e with
      | true => exact p_asgF hf h4 (ps_set G.nd i1 i2 (he.f hf) hs i3)
      | false => exact p_asgE hf h4 (ps_set G.nd i1 i2 he.t0 hs i3)
    · cases h
  | .asg (.tup ts) e, G, st, h => by
    simp only [okS] at h
    split at h
    · rename_i tx v l hx
      obtain ⟨pos, rfl, rfl⟩ := asAsg_eq hx
      simp only [Bool.and_eq_true, Bool.not_eq_true', Option.isNone_iff_eq_none] at h
      obtain ⟨⟨⟨h1, h2⟩, h3⟩, h4⟩ := h
      cases tx <;> first | (simp [okTg] at h1; done) | skip
      refine p_asgT (ps_asg (sE e G v h2).t0 (s_tg G _ _ h1) (by unfold swapsWithSole; exact nsw_pure h3) ?_ rfl)
      unfold swappedStores
      cases v <;> first | rfl | (cases h4; done)
    · cases h
  | .set i b a, G, st, h => by
    simp only [okS] at h
    split at h
    · rename_i n p1 kx p2 v l hx
      obtain ⟨pos, rfl, rfl⟩ := asAsg_eq hx
      simp only [Bool.and_eq_true, Bool.not_eq_true'] at h
      obtain ⟨⟨⟨⟨h1, h2⟩, h3⟩, h4⟩, h5⟩ := h
      exact p_set (ps_asg (sE a G v h3).t0 (pg_sub (G.pv h1) (sE b G kx h2).t0 (set_any G.hu1) (asg_sub h5)) (by unfold swapsWithSole; exact nsw_pure h4) (by unfold swappedStores; cases v <;> rfl) rfl)
    · cases h
  | .aug i o a, G, st, h => by
    simp only [okS] at h
    split at h
    · rename_i n p1 op v hx
      obtain ⟨pos, rfl⟩ := asAug_eq hx
      simp only [Bool.and_eq_true] at h
      obtain ⟨⟨h1, h2⟩, h3⟩ := h
      obtain ⟨i1, i2, i3⟩ := sto_ok G h1
      obtain ⟨ti, j1, j2⟩ := aug_of (X := X) h2
      exact p_aug j2 (ps_aug G.nd i1 i2 (sE a G v h3).t1 j1 i3)
    · cases h
  | .augset i b o a, G, st, h => by
    simp only [okS] at h
    split at h
    · rename_i n p1 kx p2 op v hx
      obtain ⟨pos, rfl⟩ := asAug_eq hx
      simp only [Bool.and_eq_true, Bool.not_eq_true'] at h
      obtain ⟨⟨⟨⟨h1, h2⟩, h3⟩, h4⟩, h5⟩ := h
      obtain ⟨ti, j1, j2⟩ := aug_of (X := X) h4
      exact p_augset j2 (ps_augS (G.pv h1) (sE b G kx h2).t0 (get_any G.hu1) (sE a G v h5).t1 j1 (set_any G.hu1) (aug_str h3))
    · cases h
  | .app i a, G, st, h => by
    simp only [okS] at h
    split at h
    · rename_i n mm e hx
      obtain ⟨p, apos, cpos, pos, rfl, hl⟩ := asMs_eq hx
      simp only [Bool.and_eq_true, Bool.not_eq_true', decide_eq_true_eq] at h
      obtain ⟨⟨⟨rfl, h2⟩, h3⟩, h4⟩ := h
      exact p_app (ps_expr (pe_bm F.plainAttrs_list F.slot_list_append F.type_list_append mt_append (G.pv h2) (pa_cons (sE a G e h3).t0 pa_nil (starEach_cons h4)) rfl (by rw [starEach_cons h4]; rfl) hl (starEach_cons h4) rfl) rfl)
    · cases h
  | .ext i a, G, st, h => by
    simp only [okS] at h
    split at h
    · rename_i n mm e hx
      obtain ⟨p, apos, cpos, pos, rfl, hl⟩ := asMs_eq hx
      simp only [Bool.and_eq_true, Bool.not_eq_true', decide_eq_true_eq] at h
      obtain ⟨⟨⟨rfl, h2⟩, h3⟩, h4⟩ := h
      exact p_ext (ps_expr (pe_bm F.plainAttrs_list F.slot_list_extend F.type_list_extend mt_extend (G.pv h2) (pa_cons (sE a G e h3).t1 pa_nil (starEach_cons h4)) rfl (by rw [starEach_cons h4]; rfl) hl (starEach_cons h4) rfl) rfl)
    · cases h
  | .upd i a, G, st, h => by
    simp only [okS] at h
    split at h
    · rename_i n mm e hx
      obtain ⟨p, apos, cpos, pos, rfl, hl⟩ := asMs_eq hx
      simp only [Bool.and_eq_true, Bool.not_eq_true', decide_eq_true_eq] at h
      obtain ⟨⟨⟨⟨⟨rfl, h2⟩, h3⟩, h4⟩, h5⟩, h6⟩ := h
      have he := sE a G e h3
      have hv : isVar a = false := by cases a <;> first | rfl | cases h5
      exact p_upd (fun env s => evE_m hv he.it true env s) (ps_expr (pe_bm F.plainAttrs_dict F.slot_dict_update F.type_dict_update mt_update (G.pv h2) (pa_cons (he.f h5) pa_nil (starEach_cons h4)) rfl (by rw [starEach_cons h4]; rfl) hl (starEach_cons h4) rfl) rfl)
    · cases h
  | .ret e, G, st, h => by
    simp only [okS] at h
    split at h
    · rename_i v hx
      obtain ⟨pos, rfl⟩ := asRet_eq hx
      exact p_ret (sE e G v h).t0
    · cases h
  | .retN, G, st, h => by
    simp only [okS] at h
    split at h
    · rename_i hx
      obtain ⟨pos, rfl⟩ := asRet_eq hx
      exact p_retN
    · cases h
  | .ite c a b, G, st, h => by
    simp only [okS] at h
    split at h
    · rename_i cx u v hx
      obtain ⟨pos, rfl⟩ := asIfS_eq hx
      simp only [Bool.and_eq_true] at h
      exact p_ite (sE c G cx h.1.1).b (sSs a G u h.1.2) (sSs b G v h.2)
    · cases h
  | .for_ tg it body, G, st, h => by
    simp only [okS] at h
    split at h
    · rename_i tx ix u hx
      obtain ⟨pos, rfl⟩ := asFor_eq hx
      simp only [Bool.and_eq_true, Bool.not_eq_true'] at h
      obtain ⟨⟨⟨h1, h2⟩, h3⟩, h4⟩ := h
      exact p_for G.xe G.calm (or_pi (m := false) (fun w => sI it G ix tx w) (fun w => seO G w (sE it G ix w)) h2) (s_tg G tg tx h1) (sSs body G u h4) (folded_ok h3 X.env)
    · cases h
  | .forK tg i body, G, st, h => by
    simp only [okS] at h
    split at h
    · rename_i tx n p u hx
      obtain ⟨pos, rfl⟩ := asFor_eq hx
      simp only [Bool.and_eq_true] at h
      exact p_forK G.xe G.calm (G.pv h.1.2) (s_tg G tg tx h.1.1) (sSs body G u h.2)
    · cases h
  | .cont, G, st, h => by
    simp only [okS] at h
    split at h
    · exact p_cont
    · cases h
  | .brk, G, st, h => by
    simp only [okS] at h
    split at h
    · exact p_brk
    · cases h
  | .pass, G, st, h => by
    simp only [okS] at h
    split at h
    · exact p_pass ps_pass
    · exact p_pass ps_doc
    · cases h
  | .never, G, st, h => p_never
  | .share _, G, st, h => by simp [okS] at h
  | .asgs ts es, G, st, h => by
    simp only [okS, Bool.or_eq_true] at h
    rcases h with h | h
    · exact sPar G h
    · exact sParT G h
  | .app2 _ _ _, G, st, h => by simp [okS] at h
theorem sSs : ∀ (ss : List S) (_ : Good Φ C k X) (sts : List Stmt), okSs C ss sts = true → PSs X sts (tSts X.K Φ ss)
  | [], G, sts, h => by
    cases sts with
    | nil => exact p_nil
    | cons a b => simp [okSs] at h
  | s :: r, G, sts, h => by
    by_cases hs : ∃ i, s = .share i
    · obtain ⟨i, rfl⟩ := hs
      simp only [okSs] at h
      exact p_share (sSs r G sts h)
    · cases sts with
      | nil => cases s <;> first | (simp [okSs] at h; done) | exact absurd ⟨_, rfl⟩ hs
      | cons st sts =>
        have h' : (okS C s st && okSs C r sts) = true := by cases s <;> first | (simpa [okSs] using h; done) | exact absurd ⟨_, rfl⟩ hs
        rw [Bool.and_eq_true] at h'
        exact p_cons (sS s G st h'.1) (sSs r G sts h'.2)
end
end
end Gh
set_option linter.all false
set_option maxRecDepth 100000
set_option maxHeartbeats 2000000
namespace Gh
open PySem PySem.Spec PyProof.Rows L2

/-! ### a def keeps its promise -/
theorem R.extend {K : PySem.W.Frag} {H0 : Fm} {g : Gs} {own : Own} {env : List Slot} {s : Src} {σ : L2.St} {H : Hp} (r : R K H0 g own env s σ H) (n : Nat) : R K H0 g own (env ++ List.replicate n .un) s (σ ++ List.replicate n none) H := by
  have get : ∀ (i : Nat) (x : Slot), (env ++ List.replicate n .un)[i]? = some x → env[i]? = some x ∨ x = .un := fun i x e => by
    rw [List.getElem?_append] at e
    split at e
    · exact .inl e
    · rw [List.getElem?_replicate] at e
      split at e
      · cases e; exact .inr rfl
      · cases e
  refine ⟨by simp [r.len], r.sub, r.keep, r.prot, r.prL, r.src, r.locS, r.own_, fun i v x e1 e2 => ?_, fun i t e => ?_⟩
  · rcases get i x e2 with h | rfl
    · have hi : i < σ.length := by rw [r.len]; exact (List.getElem?_eq_some_iff.mp h).1
      rw [List.getElem?_append, if_pos hi] at e1
      exact r.slot i v x e1 h
    · exact .un
  · rcases get i _ e with h | h
    · obtain ⟨a, u, kvs, ts, h1, h2, h3⟩ := r.lkd i t h
      have hi : i < σ.length := by rw [r.len]; exact (List.getElem?_eq_some_iff.mp h).1
      exact ⟨a, u, kvs, ts, h1, by rw [List.getElem?_append, if_pos hi]; exact h2, h3⟩
    · cases h
theorem def_ok {P : Program} {w : World} {K : PySem.W.Frag} {mg : Str → Option Value} {base : Heap} {Φ : String → List T → Src → Option (T × Src)} {k : Nat} {C : Ctx} {d : Def} {ps : List Str} {x qual : Str} {params : Arguments} {body : List Stmt} {f : Addr} {fd : FuncData}
    (F : FunD K x qual params body C.sc [] [] f fd) (S : FnScope C.N ps C.sc) (hbl : ∀ n ∈ blN, mg n = none)
    (hus : ∀ q ∈ C.us, ∃ (f : Addr) (fd : FuncData) (ps : List Str), FnOk P w K mg base L2.CX0 k f fd ps (Spec K (Φ q.2.1) q.2.2) ∧ mg q.1 = some (.ref f) ∧ PySem.W.keepIn K (.ref f) = true ∧ Binds K fd ps [])
    (hok : okSs C d.body body = true) (hns : C.N.length = d.ns) (hnp : ps.length = d.np) : FnOk P w K mg base L2.CX0 (k + 1) f fd ps (Spec K (evFn Φ d) d.np) := by
  refine F.ok S (fun vs H Q E h => h.1.trans hnp.symm) (fun cdv A outer s H vs Q E hr h => ?_)
  have G : Good Φ C k (cxOf L2.CX0 P w K mg base C.N qual C.sc f cdv A outer s H E).nox := ⟨rfl, S.nd, rfl, fun _ _ => rfl, rfl, rfl, hr, hbl, fun q hq => ⟨hus q hq⟩⟩
  refine ⟨_, PSs.nox (sSs d.body G body hok), ?_⟩
  obtain ⟨hl, g, Pp, sr, ts, t, s', r, e, q⟩ := h
  have lts : ts.length = vs.length := by
    have := r.len
    simpa using this.symm
  unfold evFn at e
  rw [if_pos (by rw [lts, hl])] at e
  have r1 := r.extend (C.N.length - vs.length)
  have he : ts.map Slot.sh ++ List.replicate (C.N.length - vs.length) Slot.un = ts.map Slot.sh ++ List.replicate (d.ns - d.np) Slot.un := by rw [hns, hl]
  rw [he] at r1
  split at e
  · rename_i t1 env1 s1 e1
    cases e
    exact ⟨⟨H, Pp, fun _ => none⟩, g, _, _, sr, .rt _, env1, _, r1, e1, fun g' own σ v H' l r' p => q g' v H' l r'.drop p⟩
  · rename_i env1 s1 e1
    cases e
    exact ⟨⟨H, Pp, fun _ => none⟩, g, _, _, sr, .nx, env1, _, r1, e1, fun g' own σ H' l r' => q g' .non H' l r'.drop .non⟩
  · cases e
end Gh
set_option linter.all false
set_option maxRecDepth 100000
set_option maxHeartbeats 2000000
namespace Gh
open PySem PySem.Spec PyProof.Rows L2

/-! ### the source of draws, by hand -/
abbrev kS (x : String) : Key := .inr (Str.ofString x)
theorem vS_pos {x : String} {v : V} {r : List (Key × V)} : valV ((kS x, v) :: r) (kS x) = some v := valV_pos rfl
theorem vS_neg {x y : String} {v : V} {r : List (Key × V)} (h : x ≠ y) : valV ((kS x, v) :: r) (kS y) = valV r (kS y) := valV_neg fun e => h (str_inj (Sum.inr.inj e))
theorem src_cells {c : Addr} {st : Gh.St} : valV (srcKvs c st) (kS "cells") = some (.ref c) := vS_pos
theorem src_left {c : Addr} {st : Gh.St} : valV (srcKvs c st) (kS "left") = some (.int st.left) := (vS_neg (by decide)).trans vS_pos
theorem src_mixed {c : Addr} {st : Gh.St} : valV (srcKvs c st) (kS "mixed") = some (.int st.mixed) := (vS_neg (by decide)).trans ((vS_neg (by decide)).trans vS_pos)
theorem src_turn {c : Addr} {st : Gh.St} : valV (srcKvs c st) (kS "turn") = some (.int st.turn) := (vS_neg (by decide)).trans ((vS_neg (by decide)).trans ((vS_neg (by decide)).trans vS_pos))
theorem kS_ne {x y : String} (h : x ≠ y) : ¬ (kS x = kS y) := fun e => h (str_inj (Sum.inr.inj e))
theorem put_left {c : Addr} {st : Gh.St} {v : Int} : putK (srcKvs c st) (kS "left") (.int v) = srcKvs c { st with left := v } := by
  have h : ∀ x, x ≠ "left" → decide (kS x = kS "left") = false := fun x h => decide_eq_false (kS_ne h)
  simp only [putK, srcKvs, List.any_cons, List.map_cons, List.map_nil, decide_true, Bool.true_or, Bool.or_true, if_true, h "cells" (by decide), kS_ne (show "cells" ≠ "left" by decide), kS_ne (show "mixed" ≠ "left" by decide), kS_ne (show "turn" ≠ "left" by decide), if_false]
theorem put_turn {c : Addr} {st : Gh.St} {v : Int} : putK (srcKvs c st) (kS "turn") (.int v) = srcKvs c { st with turn := v } := by
  simp only [putK, srcKvs, List.any_cons, List.map_cons, List.map_nil, decide_true, Bool.true_or, Bool.or_true, if_true, kS_ne (show "cells" ≠ "turn" by decide), kS_ne (show "mixed" ≠ "turn" by decide), kS_ne (show "left" ≠ "turn" by decide), if_false]

def tGetS (x : String) : TE := tOp rIxD (tVar 0) (tC (.str (Str.ofString x)))
def tPutS (x : String) (te : TE) : TS := tAsg te (gSub (tVar 0) (tC (.str (Str.ofString x))) rSetA)
def rIntB : List V → Hp → VK → Prop := fun xs H Q => (∃ i, xs = [.int i] ∧ Q (.int i) H) ∨ ∃ k, xs = [.bl k] ∧ Q (.int (if k then 1 else 0)) H
def tInt (te : TE) : TE := tCB rIntB (tCons te tNil)
abbrev rAd : R2 := rI0 fun i j => .int (i + j)
abbrev rMu : R2 := rI CMul fun i j => .int (i * j)
abbrev rFd : R2 := rI CDiv fun i j => .int (i / j)
abbrev rMd : R2 := rI (fun _ j => 0 < j) fun i j => .int (i % j)
def tPickWhile (K : PySem.W.Frag) : TS := tWhile (tAnd (L2.tB (tLt (tGetS "left") (tC (.int 2)))) (L2.tB (tGt (tCB (rLen K) (tCons (tVar 2) tNil)) (tC (.int 0))))) (tPutS "left" (tBM0 K "list" rPop (tVar 2)))
def tPick (K : PySem.W.Frag) : TS :=
  tSeq (tIfS (L2.tB (tLt (tVar 1) (tC (.int 2)))) (tRet (tC (.int 0))) tNext)
  (tSeq (tAsg (tGetS "cells") (gName 2))
  (tSeq (tPickWhile K)
  (tSeq (tAsg (tGetS "left") (gName 3))
  (tSeq (tIfS (L2.tB (tGt (tVar 3) (tC (.int 1)))) (tSeq (tPutS "left" (tOp rFd (tVar 3) (tVar 1))) (tRet (tOp rMd (tInt (tVar 3)) (tVar 1)))) tNext)
  (tSeq (tPutS "turn" (tOp rAd (tGetS "turn") (tC (.int 1))))
  (tSeq (tAsg (tGetS "turn") (gName 4))
  (tSeq (tAsg (tOp rMd (tInt (tOp rAd (tGetS "mixed") (tOp rMu (tVar 4) (tC (.int 104729))))) (tC (.int 998244353))) (gName 5))
  (tSeq (tAsg (tOp rMd (tInt (tOp rAd (tOp rMu (tVar 5) (tVar 5)) (tOp rMu (tVar 4) (tC (.int 17))))) (tC (.int 2147483647))) (gName 5))
  (tRet (tOp rMd (tInt (tOp rFd (tVar 5) (tC (.int 16)))) (tVar 1)))))))))))

theorem lit_pos {n : Nat} : (0 : Int) < ((n + 1 : Nat) : Int) := by omega
theorem ifT {p : Bool} {a b : Prop} (h : p = true) (x : a) : if p = true then a else b := by rw [if_pos h]; exact x
theorem ifF {p : Bool} {a b : Prop} (h : p = false) (x : b) : if p = true then a else b := by rw [h]; exact x
/-- the source stands as told; the rest of the heap is as it was -/
structure SrcAt (a c : Addr) (H0 : Hp) (st : Gh.St) (H : Hp) : Prop where
  ne : a ≠ c
  d : H a = some (.dK (srcKvs c st))
  l : H c = some (.lst (st.cells.reverse.map V.int))
  n : st.cells.length ≤ 1000
  o : ∀ x, x ≠ a → x ≠ c → H x = H0 x
section
variable {a c : Addr} {H0 H : Hp} {st : Gh.St}
theorem SrcAt.get {x : String} {v : V} (h : SrcAt a c H0 st H) (e : valV (srcKvs c st) (kS x) = some v) : DGet H a (.str (Str.ofString x)) (some v) := by
  have := DGet.k (k := kS x) h.d
  rw [e] at this
  exact this
theorem SrcAt.tget {x : String} {v : V} {σ : L2.St} {Q : VK} (h : SrcAt a c H0 st H) (h0 : σ[0]? = some (some (.ref a))) (e : valV (srcKvs c st) (kS x) = some v) (q : Q v H) : tGetS x σ H Q :=
  ⟨_, h0, a, v, rfl, h.get e, q⟩
theorem SrcAt.put {x : String} {v : V} {st' : Gh.St} (h : SrcAt a c H0 st H) (e : putK (srcKvs c st) (kS x) v = srcKvs c st') (hc : st'.cells = st.cells) : SrcAt a c H0 st' (upd H a (.dK (srcKvs c st'))) := by
  refine ⟨h.ne, upd_same, ?_, by rw [hc]; exact h.n, fun x h1 h2 => ?_⟩
  · rw [upd_ne h.ne.symm, hc]; exact h.l
  · rw [upd_ne h1]; exact h.o x h1 h2
end
theorem rev_last (c : Int) (cs : List Int) : ((c :: cs).reverse.map V.int).dropLast = cs.reverse.map V.int := by
  rw [List.reverse_cons, List.map_append, List.map_singleton, List.dropLast_concat]
theorem rev_get (c : Int) (cs : List Int) : ((c :: cs).reverse.map V.int)[((c :: cs).reverse.map V.int).length - 1]? = some (.int c) := by
  rw [List.reverse_cons, List.map_append, List.map_singleton, List.length_append, List.length_singleton, Nat.add_sub_cancel, List.getElem?_concat_length]
/-- while left < 2 and cells: left = cells.pop() -/
theorem pick_while {K : PySem.W.Frag} {a c : Addr} {H0 : Hp} {D : Ends} {σ : L2.St} (h0 : σ[0]? = some (some (.ref a))) (h2 : σ[2]? = some (some (.ref c))) (st : Gh.St) (H : Hp) (h : SrcAt a c H0 st H)
    (q : ∀ H', SrcAt a c H0 { st with cells := (popTo st.cells st.left).1, left := (popTo st.cells st.left).2 } H' → D.nx σ H') : tPickWhile K D σ H := by
  refine ⟨fun m σ' H' => σ' = σ ∧ ∃ st', SrcAt a c H0 st' H' ∧ m = st'.cells.length ∧ st'.mixed = st.mixed ∧ st'.turn = st.turn ∧ popTo st'.cells st'.left = popTo st.cells st.left, ⟨_, rfl, st, h, rfl, rfl, rfl, rfl⟩, ?_⟩
  rintro m σ' H' ⟨rfl, st', h', rfl, e1, e2, e3⟩
  have fin : (popTo st'.cells st'.left) = (st'.cells, st'.left) → D.nx σ' H' := fun e => by
    refine q H' ?_
    rw [← e3, e]
    have : st' = { st with cells := st'.cells, left := st'.left } := by
      cases st'; cases st; simp only at e1 e2; subst e1; subst e2; rfl
    rw [← this]
    exact h'
  refine SrcAt.tget h' h0 src_left ?_
  refine ⟨_, _, rfl, rfl, _, rfl, ?_⟩
  by_cases hl : st'.left < 2
  · refine ifT (decide_eq_true hl) ?_
    refine ⟨_, h2, ⟨_, _, rfl, .inl ⟨_, .inl (.inl h'.l), rfl⟩, _, _, rfl, rfl, _, rfl, ?_⟩⟩
    cases hc : st'.cells with
    | nil =>
      refine ifF (by simp) ?_
      exact fin (by rw [hc]; rfl)
    | cons x xs =>
      refine ifT (by simp) ?_
      refine ⟨fun σ'' H'' => σ'' = σ' ∧ ∃ st2, SrcAt a c H0 st2 H'' ∧ st2.cells = xs ∧ st2.left = x ∧ st2.mixed = st.mixed ∧ st2.turn = st.turn, ?_, ?_⟩
      · rintro σ'' H'' ⟨rfl, st2, g, g1, g2, g3, g4⟩
        refine ⟨st2.cells.length, by rw [g1]; simp, rfl, st2, g, rfl, g3, g4, ?_⟩
        rw [← e3, hc, g1, g2, popTo, if_pos hl]
      · have hr := rev_get x xs
        rw [← hc] at hr
        refine ⟨_, h2, .inl ⟨rfl, _, .inl (.inl h'.l)⟩, ⟨c, _, _, rfl, rfl, h'.l, hr, ?_⟩⟩
        have hs : SrcAt a c H0 { st' with cells := xs } (upd H' c (.lst (((st'.cells).reverse.map V.int).dropLast))) := by
          refine ⟨h'.ne, ?_, ?_, ?_, fun y y1 y2 => ?_⟩
          · rw [upd_ne h'.ne]; exact h'.d
          · rw [upd_same, hc, rev_last]
          · have := h'.n
            rw [hc] at this
            simp at this ⊢
            omega
          · rw [upd_ne y2]; exact h'.o y y1 y2
        refine ⟨_, h0, .inr ⟨a, _, rfl, ?_, ⟨rfl, { st' with cells := xs, left := x }, hs.put (put_left (v := x)) rfl, rfl, rfl, e1, e2⟩⟩⟩
        have := DPut.k (k := kS "left") (v := .int x) hs.d (by rw [sizeLine_eq]; simp [srcKvs])
        rw [put_left] at this
        exact this
  · refine ifF (decide_eq_false hl) ?_
    refine ifF rfl ?_
    refine fin ?_
    cases hc : st'.cells with
    | nil => rfl
    | cons x xs => rw [popTo, if_neg hl]
/-- behind a draw -/
theorem R.drawn {K : PySem.W.Frag} {F : Fm} {g : Gs} {own : Own} {env : List Slot} {s : Src} {σ : L2.St} {H H' : Hp} {a c : Addr} {st' : Gh.St} (r : R K F g own env s σ H) (hl : g.loc = some (a, c)) (h : SrcAt a c H st' H') : R K F g (fun _ => none) [] (some st') [] H' := by
  have nl : ∀ x, ¬ g.isL x → H' x = H x := fun x hx => h.o x (fun e => hx ⟨a, c, hl, .inl e⟩) (fun e => hx ⟨a, c, hl, .inr e⟩)
  refine ⟨rfl, fun x o e => ?_, fun x o e n => ?_, r.prot, r.prL, ?_, fun x hx => ⟨(r.locS x hx).1, rfl⟩, fun x i e => (by cases e), fun i v x e1 => (by simp at e1), fun i t e => (by simp at e)⟩
  · rw [nl x (fun hx => by rw [(r.locS x hx).1] at e; cases e)]
    exact r.sub x o e
  · rw [nl x n]
    exact r.keep x o e n
  · rw [hl]
    exact ⟨h.d, h.l, h.n⟩
theorem R.srcAt {K : PySem.W.Frag} {F : Fm} {g : Gs} {own : Own} {env : List Slot} {st : Gh.St} {σ : L2.St} {H : Hp} {a c : Addr} (r : R K F g own env (some st) σ H) (hl : g.loc = some (a, c)) : SrcAt a c H st H := by
  have q := r.src
  rw [hl] at q
  refine ⟨fun e => ?_, q.1, q.2.1, q.2.2, fun _ _ _ => rfl⟩
  have := q.1
  rw [e, q.2.1] at this
  cases this
theorem pick_run {K : PySem.W.Frag} {vs : List V} {H : Hp} {Q : VK} {E : XK} {N : List Str} (hN : N.length = 6) (h : Spec K pickF 2 vs H Q E) : tPick K { nx := fun _ H' => Q .non H', rt := Q } (start N vs) H := by
  obtain ⟨hlen, g, P, s, ts, t, s', r, e, q⟩ := h
  unfold pickF at e
  split at e
  rotate_left
  · cases e
  rename_i most st
  simp only [Option.ite_none_right_eq_some, Option.some.injEq, Prod.mk.injEq] at e
  obtain ⟨hm, rfl, rfl⟩ := e
  match vs, hlen, r with
  | [v0, v1], _, r =>
  have z0 := r.slot 0 _ _ rfl rfl
  have z1 := r.slot 1 _ _ rfl rfl
  cases z0 with
  | sh z0 =>
  cases z1 with
  | sh z1 =>
  cases z1
  cases z0 with
  | @src a c hl =>
  have hS := r.srcAt hl
  have fin : ∀ (st' : Gh.St) (v : Int) H', (pickSt most st) = (v, st') → SrcAt a c H st' H' → Q (.int v) H' := fun st' v H' e h => by
    refine q g _ H' (Le.refl g) ?_ (by rw [e]; exact .int _)
    rw [e]
    exact r.drawn hl h
  clear q
  have hs : start N [V.ref a, V.int most] = [some (V.ref a), some (V.int most), none, none, none, none] := by
    show _ ++ List.replicate (N.length - 2) none = _
    rw [hN]; rfl
  rw [hs]
  refine ⟨_, rfl, _, _, rfl, rfl, _, rfl, ?_⟩
  by_cases h2 : most < 2
  · refine ifT (decide_eq_true h2) ?_
    exact fin st 0 H (by unfold pickSt; rw [if_pos h2]) hS
  refine ifF (decide_eq_false h2) ?_
  refine hS.tget rfl src_cells ?_
  refine pick_while rfl rfl st H hS fun H1 h1 => ?_
  refine h1.tget rfl src_left ?_
  refine ⟨_, rfl, _, _, rfl, rfl, _, rfl, ?_⟩
  have hp : pickSt most st = (let p := popTo st.cells st.left
    if p.2 > 1 then (p.2 % most, { st with cells := p.1, left := p.2 / most })
    else (stir st.mixed (st.turn + 1) / 16 % most, { st with cells := p.1, left := p.2, turn := st.turn + 1 })) := by
    unfold pickSt; rw [if_neg h2]
  cases ep : popTo st.cells st.left with
  | mk cs l =>
  rw [ep] at h1 hp
  simp only at hp h1 ⊢
  by_cases h3 : 1 < l
  · refine ifT (decide_eq_true h3) ?_
    rw [if_pos h3] at hp
    refine ⟨_, rfl, _, rfl, ⟨_, _, rfl, rfl, ⟨by omega, hm⟩, ?_⟩⟩
    refine ⟨_, rfl, .inr ⟨a, upd H1 a (.dK (srcKvs c { st with cells := cs, left := l / most })), rfl, ?_, ?_⟩⟩
    · have := DPut.k (k := kS "left") (v := .int (l / most)) h1.d (by rw [sizeLine_eq]; simp [srcKvs])
      rw [put_left] at this
      exact this
    · refine ⟨_, rfl, .inl ⟨_, rfl, _, rfl, _, _, rfl, rfl, by omega, ?_⟩⟩
      exact fin _ _ _ hp (h1.put (put_left (v := l / most)) rfl)
  · refine ifF (decide_eq_false h3) ?_
    rw [if_neg h3] at hp
    refine h1.tget rfl src_turn ⟨_, _, rfl, rfl, ?_⟩
    refine ⟨_, rfl, .inr ⟨a, upd H1 a (.dK (srcKvs c { st with cells := cs, left := l, turn := st.turn + 1 })), rfl, ?_, ?_⟩⟩
    · have := DPut.k (k := kS "turn") (v := .int (st.turn + 1)) h1.d (by rw [sizeLine_eq]; simp [srcKvs])
      rw [put_turn] at this
      exact this
    · have h4 := h1.put (st' := { st with cells := cs, left := l, turn := st.turn + 1 }) (put_turn (v := st.turn + 1)) rfl
      refine h4.tget rfl src_turn ?_
      have b1 : ∀ x : Int, 0 ≤ x % 998244353 ∧ x % 998244353 < 998244353 := fun x => ⟨Int.emod_nonneg _ (by decide), Int.emod_lt_of_pos _ (by decide)⟩
      refine h4.tget rfl src_mixed ⟨_, rfl, _, _, rfl, rfl, .inr (by decide), ⟨_, _, rfl, rfl, .inl ⟨_, rfl, _, _, rfl, rfl, lit_pos, ?_⟩⟩⟩
      have b2 := b1 (st.mixed + (st.turn + 1) * 104729)
      refine ⟨_, rfl, _, rfl, _, _, rfl, rfl, .inl (by constructor <;> omega), ?_⟩
      refine ⟨_, rfl, _, _, rfl, rfl, .inr (by decide), ⟨_, _, rfl, rfl, .inl ⟨_, rfl, _, _, rfl, rfl, lit_pos, ?_⟩⟩⟩
      refine ⟨_, rfl, _, _, rfl, rfl, ⟨by decide, by decide⟩, .inl ⟨_, rfl, ?_⟩⟩
      refine ⟨_, rfl, _, _, rfl, rfl, by omega, ?_⟩
      exact fin _ _ _ hp h4
/-! ### the source is opened -/
def rAbsI : List V → Hp → VK → Prop := fun xs H Q => ∃ i, xs = [.int i] ∧ Q (.int (if i < 0 then -i else i)) H
def tOpen (K : PySem.W.Frag) : TS :=
  tSeq (tAsg (tC (.int 11)) (gName 1))
  (tSeq (tFor (iList K (tVar 0)) (gName 2) (tAsg (tOp rMd (tInt (tOp rAd (tOp rAd (tOp rMu (tVar 1) (tC (.int 69069))) (tOp rMu (tVar 2) (tC (.int 31)))) (tC (.int 5)))) (tC (.int 2147483629))) (gName 1)))
  (tSeq (tAsg (tLc (iList K (tVar 0)) (gName 2) tYes (tCB rAbsI (tCons (tVar 2) tNil)) [2]) (gName 3))
  (tRet (tDisp [(tC (.str (Str.ofString "cells")), tRevL K (tVar 3)), (tC (.str (Str.ofString "left")), tC (.int 1)), (tC (.str (Str.ofString "mixed")), tVar 1), (tC (.str (Str.ofString "turn")), tC (.int 0))]))))
theorem src_made {c : Addr} {st : Gh.St} : mergeK [] [(kS "cells", .ref c), (kS "left", .int st.left), (kS "mixed", .int st.mixed), (kS "turn", .int st.turn)] = srcKvs c st := by
  simp [mergeK, putK, srcKvs, str_eq]
theorem R.opened {K : PySem.W.Frag} {F : Fm} {g : Gs} {own : Own} {env : List Slot} {σ : L2.St} {H H' : Hp} {a c : Addr} {st : Gh.St} (r : R K F g own env none σ H) (ha : H a = none) (hc : H c = none) (up : ∀ x o, H x = some o → H' x = some o)
    (h1 : H' a = some (.dK (srcKvs c st))) (h2 : H' c = some (.lst (st.cells.reverse.map V.int))) (h3 : st.cells.length ≤ 1000) :
    Le g { g with loc := some (a, c) } ∧ R K F { g with loc := some (a, c) } (fun _ => none) [] (some st) [] H' := by
  have hg : g.loc = none := by
    have q := r.src
    cases e : g.loc with
    | none => rfl
    | some p => rw [e] at q; exact q.elim
  refine ⟨⟨fun _ _ e => e, fun p e => by rw [hg] at e; cases e⟩, ?_⟩
  have nl : ∀ x, ¬ g.isL x := fun x ⟨b, d, e, _⟩ => by rw [hg] at e; cases e
  refine ⟨rfl, fun x o e => up x o (r.sub x o e), fun x o e _ => up x o (r.keep x o e (nl x)), r.prot, fun x hx ⟨b, d, e, h⟩ => ?_, ⟨h1, h2, h3⟩, fun x ⟨b, d, e, h⟩ => ⟨?_, rfl⟩, fun x i e => (by cases e), fun i v x e1 => (by simp at e1), fun i t e => (by simp at e)⟩
  · cases e
    rcases h with rfl | rfl
    · exact r.gP ha hx
    · exact r.gP hc hx
  · cases e
    rcases h with rfl | rfl
    · exact r.gS ha
    · exact r.gS hc
theorem open_run {K : PySem.W.Frag} {vs : List V} {H : Hp} {Q : VK} {E : XK} {N : List Str} (hN : N.length = 4) (h : Spec K openF 1 vs H Q E) : tOpen K { nx := fun _ H' => Q .non H', rt := Q } (start N vs) H := by
  obtain ⟨hlen, g, P, s, ts, t, s', r, e, q⟩ := h
  unfold openF at e
  split at e
  rotate_left
  · cases e
  rename_i ns
  simp only [Option.ite_none_right_eq_some, Option.some.injEq, Prod.mk.injEq] at e
  obtain ⟨hm, rfl, rfl⟩ := e
  match vs, hlen, r with
  | [v0], _, r =>
  have z0 := r.slot 0 _ _ rfl rfl
  cases z0 with
  | sh z0 =>
  cases z0 with
  | @scr a _ hS0 =>
  have hS : SqL K H a (ns.map V.int) := SqL.mono r.sub hS0
  have hs : start N [V.ref a] = [some (V.ref a), none, none, none] := by
    show _ ++ List.replicate (N.length - 1) none = _
    rw [hN]; rfl
  rw [hs]
  have hlm : (ns.map V.int).length = ns.length := List.length_map _
  refine ⟨_, rfl, a, rfl, ⟨_, hS⟩, ?_⟩
  refine for_list (xs := ns.map V.int) (fun i σ H' => H' = H ∧ ∃ (m : Int) (kv : Option V), σ = [some (V.ref a), some (.int m), kv, none] ∧ stir0 m (ns.drop i) = stir0 11 ns) ⟨rfl, 11, none, rfl, rfl⟩ (fun i σ H' _ h => by rw [h.1]; exact hS) ?_ ?_
  · rintro i x σ H' hx ⟨rfl, m, kv, rfl, em⟩
    rw [List.getElem?_map, Option.map_eq_some_iff] at hx
    obtain ⟨n, hn, rfl⟩ := hx
    obtain ⟨h1, h2⟩ := List.getElem?_eq_some_iff.mp hn
    rw [List.drop_eq_getElem_cons h1, h2, stir0] at em
    refine ⟨_, rfl, _, _, rfl, rfl, .inr (by decide), ⟨_, rfl, _, _, rfl, rfl, .inr (by decide), ⟨_, _, rfl, rfl, ⟨_, _, rfl, rfl, .inl ⟨_, rfl, _, _, rfl, rfl, lit_pos, ?_⟩⟩⟩⟩⟩
    exact ⟨rfl, _, _, rfl, em⟩
  rintro σ H' ⟨rfl, m, kv, rfl, em⟩
  rw [hlm, List.drop_length, stir0] at em
  subst em
  refine ⟨_, rfl, a, rfl, ⟨_, hS⟩, fun D hD => ?_⟩
  have hDa : D ≠ a ∨ True := .inr trivial
  have hS' : ∀ o, SqL K (upd H' D o) a (ns.map V.int) := fun o => SqL.mono (fun b u e => by rw [upd_ne (ne_of_none e hD)]; exact e) hS
  let f : Int → V := fun n => .int (if n < 0 then -n else n)
  refine ⟨fun i m H1 => m = ns.length - i ∧ i ≤ ns.length ∧ H1 = upd H' D (.lst ((ns.take i).map f)), ⟨_, rfl, Nat.zero_le _, rfl⟩, ?_⟩
  rintro i m H1 ⟨rfl, hi, rfl⟩
  by_cases hlt : i < ns.length
  · refine .inr ⟨⟨_, _, hS' _, by rw [List.getElem?_map, List.getElem?_eq_getElem hlt]; rfl⟩, fun H2 => H2 = upd H' D (.lst ((ns.take (i + 1)).map f)), fun H2 e => ⟨ns.length - (i + 1), by omega, rfl, hlt, e⟩, ?_⟩
    rintro x H2 ⟨rfl, hx⟩
    have hx := hx _ (hS' _)
    rw [List.getElem?_map, List.getElem?_eq_getElem hlt] at hx
    cases hx
    refine ⟨rfl, ?_⟩
    refine ⟨_, rfl, _, rfl, ⟨_, upd_same, ?_, ?_⟩⟩
    · rw [sizeLine_eq, List.length_map, List.length_take]; omega
    · rw [upd_upd, List.take_succ, List.getElem?_eq_getElem hlt, List.map_append]
      rfl
  · have hi' : i = ns.length := by omega
    subst hi'
    refine .inl ⟨⟨_, hS' _, by rw [hlm]; exact Nat.le_refl _⟩, ?_⟩
    rw [List.take_length]
    intro p hp
    have hpD : p ≠ D := fun z => by rw [z, upd_same] at hp; cases hp
    have hp0 : H' p = none := by rw [upd_ne hpD] at hp; exact hp
    refine ⟨_, rfl, D, _, rfl, .inl (.inl (by rw [upd_ne (Ne.symm hpD)]; exact upd_same)), fun c hc => ?_⟩
    have hcp : c ≠ p := fun z => by rw [z, upd_same] at hc; cases hc
    have hc1 : upd H' D (.lst (ns.map f)) c = none := by rw [upd_ne hcp] at hc; exact hc
    have hcD : c ≠ D := fun z => by rw [z, upd_same] at hc1; cases hc1
    have hc0 : H' c = none := by rw [upd_ne hcD] at hc1; exact hc1
    refine ⟨_, rfl, ?_⟩
    refine ⟨by rw [upd_ne (Ne.symm hcp)]; exact upd_same, [(kS "cells", .ref c), (kS "left", .int 1), (kS "mixed", .int (stir0 11 ns)), (kS "turn", .int 0)], rfl, by simp, ?_⟩
    have hmk := src_made (c := c) (st := { cells := ns.map fun n => if n < 0 then -n else n, left := 1, mixed := stir0 11 ns, turn := 0 })
    rw [hmk]
    obtain ⟨l, r'⟩ := r.opened (H' := upd (upd (upd (upd H' D (.lst (ns.map f))) p (.dK [])) c (.lst (ns.map f).reverse)) p (.dK (srcKvs c { cells := ns.map fun n => if n < 0 then -n else n, left := 1, mixed := stir0 11 ns, turn := 0 }))) (st := { cells := ns.map fun n => if n < 0 then -n else n, left := 1, mixed := stir0 11 ns, turn := 0 }) hp0 hc0 (fun x o e => by
      rw [upd_ne (ne_of_none e hp0), upd_ne (ne_of_none e hc0), upd_ne (ne_of_none e hp0), upd_ne (ne_of_none e hD)]; exact e) upd_same (by
      rw [upd_ne hcp, upd_same]
      simp only [List.map_reverse, List.map_map]
      rfl) (by simpa using hm)
    exact q _ _ _ l r' (.src rfl)
/-! ### a drawn order -/
def tOrder (K : PySem.W.Frag) : TS :=
  tSeq (tAsg (Gh.tF K (fun _ _ _ => none) (.bi .list (.var 1))) (gName 2))
  (tRet (tLc (iRng1 (tCons (tCB (rLen K) (tCons (tVar 2) tNil)) tNil)) (gName 3) tYes
    (tBM K "list" rPopAt (tVar 2) (tCons (tCall (Spec K pickF 2) [] L2.E0 (tCons (tVar 0) (tCons (tCB (rLen K) (tCons (tVar 2) tNil)) tNil))) tNil)) [3]))
theorem popTo_len : ∀ (cs : List Int) (l : Int), (popTo cs l).1.length ≤ cs.length
  | [], l => Nat.le_refl _
  | c :: cs, l => by
    unfold popTo
    split
    · have := popTo_len cs c; simp; omega
    · exact Nat.le_refl _
theorem pick_range {m : Int} {st : Gh.St} (h : 0 < m) : 0 ≤ (pickSt m st).1 ∧ (pickSt m st).1 < m := by
  unfold pickSt
  split
  · simp; exact h
  · dsimp only
    split
    · exact ⟨Int.emod_nonneg _ (by omega), Int.emod_lt_of_pos _ h⟩
    · exact ⟨Int.emod_nonneg _ (by omega), Int.emod_lt_of_pos _ h⟩
theorem drawOrder_len : ∀ (n : Nat) (xs : List T) (st : Gh.St), (drawOrder n xs st).1.length = n
  | 0, _, _ => rfl
  | n + 1, xs, st => by simp [drawOrder, drawOrder_len n]
theorem order_run {K : PySem.W.Frag} {vs : List V} {H : Hp} {Q : VK} {E : XK} {N : List Str} (hN : N.length = 4) (h : Spec K orderF 2 vs H Q E) : tOrder K { nx := fun _ H' => Q .non H', rt := Q } (start N vs) H := by
  obtain ⟨hlen, g, P, s, ts, t, s', r, e, q⟩ := h
  unfold orderF at e
  split at e
  rotate_left
  · cases e
  rename_i th st
  split at e
  rotate_left
  · cases e
  rename_i xs hxs
  simp only [Option.ite_none_right_eq_some, Option.some.injEq, Prod.mk.injEq] at e
  obtain ⟨hm, rfl, rfl⟩ := e
  match vs, hlen, r with
  | [v0, v1], _, r =>
  have hs : start N [v0, v1] = [some v0, some v1, none, none] := by
    show _ ++ List.replicate (N.length - 2) none = _
    rw [hN]; rfl
  rw [hs]
  have r0 : R K ⟨H, P, fun _ => none⟩ g (fun _ => none) [.sh .src, .sh th, .un, .un] (some st) [some v0, some v1, none, none] H := r.extend 2
  have hb : evE (fun _ _ _ => none) (.bi .list (.var 1)) false [.sh .src, .sh th, .un, .un] (some st) = some (.lst xs, some st) := by
    simp only [evE, List.getElem?_cons_succ, List.getElem?_cons_zero]
    cases th <;> simp only [seqL, Option.some.injEq, reduceCtorEq] at hxs
    all_goals subst hxs; rfl
  refine ⟨_, g, _, _, _, _, _, r0, hb, fun g1 v H1 l1 r1 f1 => ?_⟩
  rcases f1 with ⟨f1, _⟩ | ⟨p, o, rfl, hp, hT, gp, op, h0, lp⟩
  · cases f1
  cases hT with
  | @lst ys _ hR =>
  have r2 := r1.take (i := 2) hp (.lst hR) gp op h0 lp
  have z0 := r.slot 0 _ _ rfl rfl
  cases z0 with
  | sh z0 =>
  have z0' := z0.mono l1
  have hlen2 := hR.length
  refine ⟨_, rfl, ⟨_, _, rfl, .inl ⟨_, .inl (.inl hp), rfl⟩, ?_⟩⟩
  refine ⟨_, rfl, by omega, by omega, fun D hD => ?_⟩
  have d0 := r2.g0 hD
  have dP := r2.gP hD
  have dO := r2.gO hD
  let σ0 : L2.St := [some v0, some v1, some (V.ref p), none]
  let ev : List T → List Slot := fun us => [.sh .src, .sh th, .ow (.lst us), .un]
  let ow : Own := setOwn (fun _ => none) p (some 2)
  have owp : ow p = some 2 := by show (if p = p then _ else _) = _; rw [if_pos rfl]
  refine ⟨fun i m H2 => m = xs.length - i ∧ i ≤ xs.length ∧ ∃ g' st' us acc accT, Le g1 g' ∧ R K ((⟨H, P, fun _ => none⟩ : Fm).hold D (.lst acc)) g' ow (ev us) (some st') σ0 H2 ∧ Reps K g' acc accT ∧ us.length = xs.length - i ∧
      accT ++ (drawOrder (xs.length - i) us st').1 = (drawOrder xs.length xs st).1 ∧ (drawOrder (xs.length - i) us st').2 = (drawOrder xs.length xs st).2,
    ⟨_, rfl, Nat.zero_le _, g1, st, xs, [], [], Le.refl _, r2.held (o := .lst []) hD True.intro, .nil, rfl, rfl, rfl⟩, ?_⟩
  rintro i m H2 ⟨rfl, hi, g', st', us, acc, accT, l', r', ha, hu, e1, e2⟩
  by_cases hlt : i < xs.length
  · refine .inr ⟨by show i < _; rw [hlen2]; simpa using hlt, fun H3 => ∃ g' st' us acc accT, Le g1 g' ∧ R K ((⟨H, P, fun _ => none⟩ : Fm).hold D (.lst acc)) g' ow (ev us) (some st') σ0 H3 ∧ Reps K g' acc accT ∧ us.length = xs.length - (i + 1) ∧
      accT ++ (drawOrder (xs.length - (i + 1)) us st').1 = (drawOrder xs.length xs st).1 ∧ (drawOrder (xs.length - (i + 1)) us st').2 = (drawOrder xs.length xs st).2,
      fun H3 e => ⟨xs.length - (i + 1), by omega, rfl, hlt, e⟩, ?_⟩
    rintro x H3 ⟨rfl, rfl⟩
    refine ⟨rfl, ?_⟩
    have r3 := r'.setR (i := 3) (Rep.int (K := K) (g := g') (0 + (i : Int)))
    obtain ⟨p', o', hσ, hown, hp', hT'⟩ := r3.ownAt (i := 2) (t := .lst us) rfl
    cases hσ
    cases hT' with
    | @lst ws _ hW =>
    refine ⟨_, rfl, .inl ⟨rfl, _, .inl (.inl hp')⟩, ?_⟩
    refine ⟨_, rfl, ⟨_, rfl, ⟨_, _, rfl, .inl ⟨_, .inl (.inl hp'), rfl⟩, ?_⟩⟩⟩
    have hwl := hW.length
    have hul : 0 < us.length := by omega
    have hpick := pick_range (m := (us.length : Int)) (st := st') (by omega)
    have hpF : pickF [.src, .int (ws.length : Nat)] (some st') = some (.int (pickSt us.length st').1, some (pickSt us.length st').2) := by
      unfold pickF
      rw [hwl]
      simp only
      rw [if_pos (by omega)]
    refine ⟨rfl, g', _, _, _, _, _, r3.callee (.cons (z0'.mono l') (.cons (.int _) .nil)), hpF, fun g2 v H4 l2 r4 p4 => ?_⟩
    cases p4
    have r5 := r3.behind l2 r4
    obtain ⟨p', o', hσ, hown, hp', hT'⟩ := r5.ownAt (i := 2) (t := .lst us) rfl
    cases hσ
    cases hT' with
    | @lst ws' _ hW' =>
    have hwl' := hW'.length
    have hk : (pickSt us.length st').1.toNat < us.length := by omega
    obtain ⟨y, hy, hyr⟩ := hW'.get (List.getElem?_eq_getElem hk)
    refine ⟨p, ws', _, (pickSt us.length st').1.toNat, y, rfl, rfl, hp', by omega, by omega, ?_, hy, ?_⟩
    · have hge := hpick.1
      have hlt2 := hpick.2
      rw [hwl']
      unfold seqIndex?
      simp only []
      rw [if_neg (show ¬ (pickSt (us.length : Int) st').1 < 0 by omega), if_pos (by simp [hge, hlt2])]
    have r6 := r5.write (i := 2) (o' := .lst (ws'.eraseIdx (pickSt us.length st').1.toNat)) (t := .lst (us.eraseIdx (pickSt us.length st').1.toNat)) rfl rfl hown ⟨_, _, rfl, hp', .lst hW'⟩ (.lst (hW'.eraseIdx _))
    have hh := r6.isHeld
    refine ⟨acc, hh.1, ?_, g2, (pickSt us.length st').2, us.eraseIdx (pickSt us.length st').1.toNat, acc ++ [y], accT ++ [us[(pickSt us.length st').1.toNat]], l'.trans l2, ?_, (ha.mono l2).snoc hyr, ?_, ?_, ?_⟩
    · have := ha.length
      have q1 := congrArg List.length e1
      rw [List.length_append, drawOrder_len, drawOrder_len] at q1
      rw [sizeLine_eq]; omega
    · have r7 := (r6.item (o' := .lst (acc ++ [y])) d0 dP (by show ow D = none; exact dO) True.intro).wipe [3]
      exact r7
    · rw [List.length_eraseIdx, if_pos hk]; omega
    all_goals
      have hx : xs.length - i = (xs.length - (i + 1)) + 1 := by omega
      rw [hx] at e1 e2
      simp only [drawOrder] at e1 e2
    · rw [← e1, List.append_assoc]
      have : us.getD (pickSt us.length st').1.toNat .non = us[(pickSt us.length st').1.toNat] := by simp [List.getD_eq_getElem?_getD, List.getElem?_eq_getElem hk]
      rw [this]
      rfl
    · exact e2
  · have hi' : i = xs.length := by omega
    subst hi'
    refine .inl ⟨by show _ ≤ xs.length; rw [hlen2]; simp, ?_⟩
    rw [Nat.sub_self] at e1 e2
    simp only [drawOrder, List.append_nil] at e1 e2
    rw [e1] at ha
    have zz := r'.isHeld
    have r8 := r'.unhold d0 dP
    have pf : PostF K ⟨H, P, fun _ => none⟩ ow (ev us) (some st') σ0 (.lst (drawOrder xs.length xs st).1) Q g' := PostF.of fun g3 v H4 l3 r9 p9 => by
      refine q g3 v H4 (l1.trans (l'.trans l3)) ?_ p9
      rw [← e2]
      exact r9.drop
    exact pf g' (.ref D) H2 (Le.refl _) r8 (.inr ⟨D, .lst acc, rfl, zz.1, .lst ha, zz.2.1, by show ow D = none; exact dO, d0, zz.2.2⟩)
end Gh
set_option linter.all false
set_option maxRecDepth 100000
set_option maxHeartbeats 2000000
namespace Gh
open PySem PySem.Spec PyProof.Rows L2

/-! ### all defs of a row at once -/
structure DRow where
  x : String
  st : Stmt
  N : List Str
  ps : List Str
  df : Df
abbrev FnD (K : PySem.W.Frag) (r : DRow) (f : Addr) (fd : FuncData) : Prop := FunD K (Str.ofString r.x) (Str.ofString r.x) (defArgs r.st) (defBody r.st) (defScope r.st) [] [] f fd
def DRow.us (r : DRow) : Str × String × Nat := (Str.ofString r.x, r.x, r.ps.length)
structure RowOk (us : List (Str × String × Nat)) (r : DRow) : Prop where
  sc : FnScope r.N r.ps (defScope r.st)
  bn : ∀ (kV doc pm : Value) (an : Option Addr) (cdv ct : Value) (us : List Value), us.length = r.ps.length → bindArgs (PySem.W.fnOf (Str.ofString r.x) (Str.ofString r.x) (defArgs r.st) (defBody r.st) (defScope r.st) .none kV doc pm an cdv ct) ⟨us, []⟩ = pure (r.ps.zip us)
  ok : ∀ d, r.df = .code d → okSs ⟨r.N, defScope r.st, true, [], us⟩ d.body (defBody r.st) = true ∧ r.N.length = d.ns ∧ r.ps.length = d.np
section
variable {P : Program} {w : World} {K : PySem.W.Frag} {mg : Str → Option Value} {base : Heap}
theorem spec_none {n : Nat} {vs : List V} {H : Hp} {Q : VK} {E : XK} (h : Spec K (fun _ _ => none) n vs H Q E) : False := by
  obtain ⟨_, g, Pp, s, ts, t, s', r, e, _⟩ := h
  cases e
theorem levels {rows : List DRow} {us : List (Str × String × Nat)} {Pf : String → Option Df} (hus : us = rows.map DRow.us) (hP : ∀ r ∈ rows, Pf r.x = some r.df)
    (hfd : ∀ r ∈ rows, ∃ (f : Addr) (fd : FuncData), FnD K r f fd ∧ mg (Str.ofString r.x) = some (.ref f)) (hbl : ∀ n ∈ blN, mg n = none) (hok : ∀ r ∈ rows, RowOk us r)
    (hprim : ∀ r ∈ rows, ∀ F, r.df = .prim F → ∀ (f : Addr) (fd : FuncData), FnD K r f fd → FnOk P w K mg base L2.CX0 2 f fd r.ps (Spec K F r.ps.length)) :
    ∀ n, ∀ r ∈ rows, ∀ (f : Addr) (fd : FuncData), FnD K r f fd → FnOk P w K mg base L2.CX0 (n + 2) f fd r.ps (Spec K (run Pf n r.x) r.ps.length)
  | 0, r, hr, f, fd, F => by
    have e : run Pf 0 r.x = fun _ _ => none := by funext a s; rfl
    rw [e]
    exact ⟨fun vs H Q E h => (spec_none h).elim, fun A outer s H args us vs Q E _ _ _ _ h => (spec_none h).elim⟩
  | n + 1, r, hr, f, fd, F => by
    have e : ∀ d, r.df = .code d → run Pf (n + 1) r.x = evFn (run Pf n) d := fun d hd => by
      funext a s
      show (match Pf r.x with | some (.code d) => evFn (run Pf n) d a s | some (.prim F) => F a s | none => none) = _
      rw [hP r hr, hd]
    have e2 : ∀ F, r.df = .prim F → run Pf (n + 1) r.x = F := fun F hd => by
      funext a s
      show (match Pf r.x with | some (.code d) => evFn (run Pf n) d a s | some (.prim F) => F a s | none => none) = _
      rw [hP r hr, hd]
    cases hd : r.df with
    | code d =>
      rw [e d hd]
      obtain ⟨h1, h2, h3⟩ := (hok r hr).ok d hd
      rw [h3]
      refine def_ok (C := ⟨r.N, defScope r.st, true, [], us⟩) F (hok r hr).sc hbl (fun q hq => ?_) h1 h2 h3
      rw [hus] at hq
      obtain ⟨r2, hr2, rfl⟩ := List.mem_map.mp hq
      obtain ⟨f2, fd2, F2, hm⟩ := hfd r2 hr2
      exact ⟨f2, fd2, r2.ps, levels hus hP hfd hbl hok hprim n r2 hr2 f2 fd2 F2, hm, F2.kp, F2.bindsN (hok r2 hr2).bn⟩
    | prim G =>
      rw [e2 G hd]
      exact (hprim r hr G hd f fd F).mono (by omega)
end
/-- what stands at the law's call -/
theorem spec_law {K : PySem.W.Frag} {F : List T → Src → Option (T × Src)} {H : Hp} {a : Addr} {ns : List Int} {s' : Src} (hS : SqL K H a (ns.map V.int)) (e : F [.scr ns] none = some (.bl true, s')) : Spec K F 1 [.ref a] H (fun v _ => v = .bl true) fun _ _ _ => False := by
  let g : Gs := ⟨fun b => if b = a then H a else none, none⟩
  have hS' : SqL K g.S a (ns.map V.int) := by
    have ga : g.S a = H a := by show (if a = a then _ else _) = _; rw [if_pos rfl]
    rcases hS with (h | ⟨o, h⟩) | h
    · exact .inl (.inl (by rw [ga]; exact h))
    · exact .inl (.inr ⟨o, by rw [ga]; exact h⟩)
    · exact .inr h
  refine ⟨rfl, g, fun _ => False, none, [.scr ns], .bl true, s', ?_, e, fun g' v H' _ _ p => by cases p; rfl⟩
  refine ⟨rfl, fun b o h => ?_, fun b o h _ => h, fun b h => h.elim, fun b h => h.elim, True.intro, fun b ⟨c, d, h, _⟩ => (by cases h), fun b i h => (by cases h), fun i v x h1 h2 => ?_, fun i t h => ?_⟩
  · have h' : (if b = a then H a else none) = some o := h
    split at h'
    · rename_i hb; rw [hb]; exact h'
    · cases h'
  · cases i with
    | zero =>
      simp at h1 h2
      subst h1 h2
      exact .sh (.scr hS')
    | succ i => simp at h1
  · cases i with
    | zero => simp at h
    | succ i => simp at h
end Gh
set_option linter.all false
set_option maxRecDepth 100000
namespace Gh
def d_is_integer : Def := { np := 1, ns := 1, body := [
    (.ret (.and (.isi (.var 0) .int) (.not (.isi (.var 0) .bool))))] }
def d_do_cross : Def := { np := 3, ns := 4, body := [
    (.ret (.bi .any (.comp (.cmp .inn (.sl (.var 3) .cN (.cI 2)) (.tup [(.tup [(.var 1), (.var 2)]), (.tup [(.var 2), (.var 1)])])) (.var 3) (.idx (.var 0) (.cI 1)) (.cB true) [3])))] }
def d_clearance : Def := { np := 3, ns := 7, body := [
    (.for_ (.tup [(.var 3), (.var 4), (.var 5), (.var 6)]) (.idx (.var 0) (.cI 1)) [(.ite (.cmp .eq (.tup [(.var 3), (.var 4)]) (.tup [(.var 1), (.var 2)])) [(.ret (.var 5))] []), (.ite (.cmp .eq (.tup [(.var 4), (.var 3)]) (.tup [(.var 1), (.var 2)])) [(.ret (.var 6))] [])]),
    (.ret (.cI 0))] }
def d_is_whole : Def := { np := 1, ns := 1, body := [
    (.ret (.and (.isi (.var 0) .int) (.not (.isi (.var 0) .bool))))] }
def d_foes_of : Def := { np := 2, ns := 5, body := [
    (.ret (.bi .tuple (.bi .sorted (.comp (.ite (.cmp .eq (.var 2) (.var 1)) (.var 3) (.var 2)) (.tup [(.var 2), (.var 3), (.var 4), (.var 4)]) (.idx (.var 0) (.cI 1)) (.cmp .inn (.var 1) (.tup [(.var 2), (.var 3)])) [2, 3, 4]))))] }
def d_widest_clearance : Def := { np := 1, ns := 2, body := [
    (.ret (.bi .max (.lst [(.cI 0), (.star (.comp (.bi .max (.sl (.var 1) (.cI 2) .cN)) (.var 1) (.idx (.var 0) (.cI 1)) (.cB true) [1]))])))] }
def d_is_greens : Def := { np := 2, ns := 5, body := [
    (.ite (.or (.not (.isi (.var 1) .tuple)) (.not (.bi .all (.comp (.call "is_whole" [(.var 4)]) (.var 4) (.var 1) (.cB true) [4])))) [(.ret (.cB false))] []),
    (.ite (.not (.bi .all (.comp (.ch .le .lt (.cI 0) (.var 4) (.bi .len (.idx (.var 0) (.cI 0)))) (.var 4) (.var 1) (.cB true) [4]))) [(.ret (.cB false))] []),
    (.ret (.bi .all (.comp (.cmp .lt (.var 2) (.var 3)) (.tup [(.var 2), (.var 3)]) (.zip [(.var 1), (.sl (.var 1) (.cI 1) .cN)]) (.cB true) [2, 3])))] }
def d_new_interlock : Def := { np := 1, ns := 2, body := [
    (.asg (.var 1) (.dct [(.kv (.cS "time") (.cI 0)), (.kv (.cS "greens") (.tup [])), (.kv (.cS "ended") .ptup0), (.kv (.cS "dark") (.tup [])), (.kv (.cS "faint") (.tup []))])),
    (.ret (.dctS (.var 1) [(.kv (.cS "taken") (.cI 0)), (.kv (.cS "wished") (.tup [])), (.kv (.cS "until") (.cI 0))]))] }
def d_is_wish : Def := { np := 2, ns := 5, body := [
    (.ite (.or (.not (.isi (.var 1) .tuple)) (.cmp .ne (.bi .len (.var 1)) (.cI 3))) [(.ret (.cB false))] []),
    (.asg (.tup [(.var 2), (.var 3), (.var 4)]) (.var 1)),
    (.ite (.or (.not (.call "is_whole" [(.var 2)])) (.or (.cmp .lt (.var 2) (.cI 1)) (.or (.not (.call "is_whole" [(.var 4)])) (.not (.ch .le .le (.cI 1) (.var 4) (.cI 12)))))) [(.ret (.cB false))] []),
    (.ret (.call "is_greens" [(.var 0), (.var 3)]))] }
def d_wish_heard : Def := { np := 3, ns := 6, body := [
    (.ite (.or (.not (.call "is_wish" [(.var 0), (.var 2)])) (.cmp .le (.idx (.var 2) (.cI 0)) (.idx (.var 1) (.cS "taken")))) [(.ret (.bi .dict (.var 1)))] []),
    (.asg (.tup [(.var 3), (.var 4), (.var 5)]) (.var 2)),
    (.ret (.dctS (.var 1) [(.kv (.cS "taken") (.var 3)), (.kv (.cS "wished") (.var 4)), (.kv (.cS "until") (.bin .add (.idx (.var 1) (.cS "time")) (.var 5)))]))] }
def d_is_lamp : Def := { np := 2, ns := 2, body := [
    (.ite (.or (.not (.isi (.var 1) .tuple)) (.or (.cmp .ne (.bi .len (.var 1)) (.cI 3)) (.not (.isi (.idx (.var 1) (.cI 0)) .str)))) [(.ret (.cB false))] []),
    (.ite (.or (.cmp .nin (.idx (.var 1) (.cI 0)) (.tup [(.cS "red"), (.cS "green")])) (.not (.isi (.idx (.var 1) (.cI 2)) .bool))) [(.ret (.cB false))] []),
    (.ret (.and (.call "is_whole" [(.idx (.var 1) (.cI 1))]) (.ch .le .lt (.cI 0) (.idx (.var 1) (.cI 1)) (.bi .len (.idx (.var 0) (.cI 0))))))] }
def d_lamp_heard : Def := { np := 3, ns := 12, body := [
    (.ite (.not (.call "is_lamp" [(.var 0), (.var 2)])) [(.ret (.bi .dict (.var 1)))] []),
    (.asg (.tup [(.var 3), (.var 4), (.var 5)]) (.var 2)),
    (.asg (.var 6) (.ite (.cmp .eq (.var 3) (.cS "red")) (.cS "dark") (.cS "faint"))),
    (.asg (.var 7) (.comp (.var 10) (.var 10) (.idx (.var 1) (.var 6)) (.cmp .ne (.var 10) (.var 4)) [10])),
    (.asg (.var 8) (.dctS (.var 1) [(.kv (.var 6) (.bi .tuple (.bi .sorted (.bin .add (.var 7) (.ite (.var 5) (.lst []) (.lst [(.var 4)]))))))])),
    (.ite (.and (.cmp .eq (.var 3) (.cS "red")) (.and (.var 5) (.and (.cmp .inn (.var 4) (.idx (.var 1) (.cS "dark"))) (.cmp .nin (.var 4) (.idx (.var 1) (.cS "greens")))))) [(.asg (.var 9) (.comp (.var 11) (.var 11) (.idx (.var 1) (.cS "ended")) (.cmp .ne (.idx (.var 11) (.cI 0)) (.var 4)) [11])), (.set 8 (.cS "ended") (.bi .ptuple (.bi .sorted (.lst [(.star (.var 9)), (.tup [(.var 4), (.idx (.var 1) (.cS "time"))])]))))] []),
    (.share 8),
    (.ret (.var 8))] }
def d_last_green : Def := { np := 2, ns := 2, body := [
    (.ite (.cmp .inn (.var 1) (.idx (.var 0) (.cS "greens"))) [(.ret (.idx (.var 0) (.cS "time")))] []),
    (.ret (.get (.bi .dict (.idx (.var 0) (.cS "ended"))) (.var 1)))] }
def d_is_barred : Def := { np := 3, ns := 4, body := [
    (.ret (.or (.cmp .inn (.var 2) (.idx (.var 1) (.cS "faint"))) (.bi .any (.comp (.cmp .inn (.var 3) (.idx (.var 1) (.cS "dark"))) (.var 3) (.call "foes_of" [(.var 0), (.var 2)]) (.cB true) [3]))))] }
def d_first_tick : Def := { np := 3, ns := 6, body := [
    (.asg (.var 3) (.bin .add (.call "widest_clearance" [(.var 0)]) (.cI 1))),
    (.for_ (.var 4) (.call "foes_of" [(.var 0), (.var 2)]) [(.asg (.var 5) (.call "last_green" [(.var 1), (.var 4)])), (.ite (.isN true (.var 5)) [(.asg (.var 3) (.bi2 .max (.var 3) (.bin .add (.bin .add (.var 5) (.call "clearance" [(.var 0), (.var 4), (.var 2)])) (.cI 1))))] [])]),
    (.share 3),
    (.ret (.var 3))] }
def d_next_shown : Def := { np := 2, ns := 10, body := [
    (.asg (.var 2) (.bin .add (.idx (.var 1) (.cS "time")) (.cI 1))),
    (.asg (.var 3) (.ite (.cmp .le (.var 2) (.idx (.var 1) (.cS "until"))) (.idx (.var 1) (.cS "wished")) (.tup []))),
    (.asg (.var 3) (.comp (.var 5) (.var 5) (.var 3) (.not (.call "is_barred" [(.var 0), (.var 1), (.var 5)])) [5])),
    (.asg (.var 4) (.comp (.var 5) (.var 5) (.var 3) (.cmp .inn (.var 5) (.idx (.var 1) (.cS "greens"))) [5])),
    (.share 3),
    (.for_ (.var 5) (.var 3) [(.ite (.and (.cmp .nin (.var 5) (.var 4)) (.cmp .le (.call "first_tick" [(.var 0), (.var 1), (.var 5)]) (.var 2))) [(.ite (.not (.bi .any (.comp (.cmp .inn (.var 9) (.var 4)) (.var 9) (.call "foes_of" [(.var 0), (.var 5)]) (.cB true) [9]))) [(.app 4 (.var 5))] [])] [])]),
    (.asg (.var 6) (.bi .tuple (.bi .sorted (.var 4)))),
    (.asg (.var 7) (.comp (.var 8) (.var 8) (.idx (.var 1) (.cS "ended")) (.cmp .nin (.idx (.var 8) (.cI 0)) (.var 6)) [8])),
    (.ext 7 (.comp (.tup [(.var 5), (.bin .sub (.var 2) (.cI 1))]) (.var 5) (.idx (.var 1) (.cS "greens")) (.cmp .nin (.var 5) (.var 6)) [5])),
    (.share 2),
    (.ret (.tup [(.dctS (.var 1) [(.kv (.cS "time") (.var 2)), (.kv (.cS "greens") (.var 6)), (.kv (.cS "ended") (.bi .ptuple (.bi .sorted (.var 7))))]), (.var 6)]))] }
def d_tick_fault : Def := { np := 4, ns := 8, body := [
    (.asgs [(.var 4), (.var 5)] [(.idx (.var 1) (.bin .sub (.var 2) (.cI 1))), (.ite (.cmp .gt (.var 2) (.cI 1)) (.idx (.var 1) (.bin .sub (.var 2) (.cI 2))) (.tup []))]),
    (.for_ (.var 6) (.var 4) [(.for_ (.var 7) (.call "foes_of" [(.var 0), (.var 6)]) [(.ite (.and (.cmp .lt (.var 6) (.var 7)) (.cmp .inn (.var 7) (.var 4))) [(.ret (.tup [(.cS "both"), (.var 2), (.var 6), (.var 7)]))] [])])]),
    (.for_ (.var 6) (.range [(.bi .len (.idx (.var 0) (.cI 0)))]) [(.for_ (.var 7) (.call "foes_of" [(.var 0), (.var 6)]) [(.ite (.and (.cmp .inn (.var 7) (.var 4)) (.and (.cmp .nin (.var 7) (.var 5)) (.and (.cmp .inn (.var 6) (.var 3)) (.cmp .lt (.bin .sub (.var 2) (.idx (.var 3) (.var 6))) (.bin .add (.call "clearance" [(.var 0), (.var 6), (.var 7)]) (.cI 1)))))) [(.ret (.tup [(.cS "early"), (.var 2), (.var 6), (.var 7)]))] [])])]),
    (.ret .cN)] }
def d_judge_tale : Def := { np := 2, ns := 7, body := [
    (.ite (.or (.not (.isi (.var 1) .tuple)) (.not (.bi .all (.comp (.call "is_greens" [(.var 0), (.var 4)]) (.var 4) (.var 1) (.cB true) [4])))) [(.ret (.tup [(.cS "form")]))] []),
    (.asg (.var 2) (.dct [])),
    (.for_ (.tup [(.var 3), (.var 4)]) (.enum (.var 1)) [(.asg (.var 5) (.callL "tick_fault" [(.var 0), (.var 1), (.bin .add (.var 3) (.cI 1)), (.var 2)])), (.ite (.isN true (.var 5)) [(.ret (.var 5))] []), (.upd 2 (.dcomp (.var 6) (.bin .add (.var 3) (.cI 1)) (.var 6) (.var 4) (.cB true) [6]))]),
    (.ret .cN)] }
def d_cars_let : Def := { np := 2, ns := 8, body := [
    (.asg (.var 2) (.lst [])),
    (.for_ (.var 3) (.range [(.bi .len (.idx (.var 0) (.cI 0)))]) [(.asg (.var 4) (.comp (.cmp .inn (.var 3) (.var 5)) (.var 5) (.var 1) (.cB true) [5])), (.app 2 (.bi .len (.comp (.cI 1) (.tup [(.var 6), (.var 7)]) (.zip [(.var 4), (.sl (.var 4) (.cI 1) .cN)]) (.and (.var 6) (.var 7)) [6, 7])))]),
    (.ret (.bi .tuple (.var 2)))] }
def d_tale_of : Def := { np := 2, ns := 6, body := [
    (.asgs [(.var 2), (.var 3)] [(.call "new_interlock" [(.var 0)]), (.tup [])]),
    (.for_ (.var 4) (.var 1) [(.ite (.cmp .eq (.idx (.var 4) (.cI 0)) (.cS "tick")) [(.asg (.tup [(.var 2), (.var 5)]) (.call "next_shown" [(.var 0), (.var 2)])), (.asg (.var 3) (.tup [(.star (.var 3)), (.var 5)]))] [(.ite (.cmp .eq (.idx (.var 4) (.cI 0)) (.cS "wish")) [(.asg (.var 2) (.call "wish_heard" [(.var 0), (.var 2), (.idx (.var 4) (.cI 1))]))] [(.ite (.cmp .eq (.idx (.var 4) (.cI 0)) (.cS "lamp")) [(.asg (.var 2) (.call "lamp_heard" [(.var 0), (.var 2), (.idx (.var 4) (.cI 1))]))] [(.asg (.var 2) (.call "new_interlock" [(.var 0)]))])])])]),
    (.ret (.tup [(.var 2), (.var 3)]))] }
def d_wishes_for : Def := { np := 2, ns := 4, body := [
    (.ret (.bi .tuple (.comp (.tup [(.bin .add (.bin .add (.var 1) (.var 2)) (.cI 1)), (.var 3), (.cI 1)]) (.tup [(.var 2), (.var 3)]) (.enum (.var 0)) (.cB true) [2, 3])))] }
def d_free_sets : Def := { np := 1, ns := 5, body := [
    (.asg (.var 1) (.lst [(.tup [])])),
    (.for_ (.var 2) (.range [(.bi .len (.idx (.var 0) (.cI 0)))]) [(.asg (.var 1) (.bin .add (.var 1) (.comp (.tup [(.star (.var 3)), (.var 2)]) (.var 3) (.var 1) (.not (.bi .any (.comp (.call "do_cross" [(.var 0), (.var 2), (.var 4)]) (.var 4) (.var 3) (.cB true) [4]))) [3])))]),
    (.share 1),
    (.ret (.var 1))] }
def d_is_full : Def := { np := 2, ns := 5, body := [
    (.asg (.var 2) (.comp (.var 3) (.var 3) (.range [(.bi .len (.idx (.var 0) (.cI 0)))]) (.cmp .nin (.var 3) (.var 1)) [3])),
    (.ret (.bi .all (.comp (.bi .any (.comp (.call "do_cross" [(.var 0), (.var 3), (.var 4)]) (.var 4) (.var 1) (.cB true) [4])) (.var 3) (.var 2) (.cB true) [3])))] }
def d_stages : Def := { np := 1, ns := 2, body := [
    (.ret (.bi .tuple (.bi .sorted (.comp (.var 1) (.var 1) (.call "free_sets" [(.var 0)]) (.call "is_full" [(.var 0), (.var 1)]) [1]))))] }
def d_clear_ticks : Def := { np := 2, ns := 5, body := [
    (.asg (.var 2) (.range [(.bi .len (.idx (.var 0) (.cI 0)))])),
    (.ret (.bi .max (.comp2 (.call "clearance" [(.var 0), (.var 3), (.var 4)]) (.var 3) (.idx (.call "stages" [(.var 0)]) (.var 1)) (.var 4) (.var 2) [3, 4])))] }
def d_greens : Def := { np := 2, ns := 8, body := [
    (.asgs [(.var 2), (.var 3), (.var 4)] [(.call "stages" [(.var 0)]), (.lst []), (.cI 0)]),
    (.for_ (.tup [(.var 5), (.var 6)]) (.var 1) [(.ext 3 (.comp (.tup [(.var 7), (.var 4), (.bin .add (.var 4) (.var 6))]) (.var 7) (.idx (.var 2) (.var 5)) (.cB true) [7])), (.aug 4 .add (.bin .add (.var 6) (.call "clear_ticks" [(.var 0), (.var 5)])))]),
    (.ret (.bi .tuple (.bi .sorted (.var 3))))] }
def d_lamps_at : Def := { np := 3, ns := 6, body := [
    (.ret (.bi .tuple (.comp (.var 3) (.tup [(.var 3), (.var 4), (.var 5)]) (.call "greens" [(.var 0), (.var 1)]) (.ch .le .lt (.var 4) (.var 2) (.var 5)) [3, 4, 5])))] }
def d_first_crossed : Def := { np := 2, ns := 6, body := [
    (.for_ (.tup [(.var 2), (.var 3)]) (.enum (.var 1)) [(.for_ (.var 4) (.var 3) [(.for_ (.var 5) (.var 3) [(.ite (.and (.cmp .lt (.var 4) (.var 5)) (.call "do_cross" [(.var 0), (.var 4), (.var 5)])) [(.ret (.tup [(.cS "crossed"), (.var 2), (.var 4), (.var 5)]))] [])])])]),
    (.ret .cN)] }
def d_first_early : Def := { np := 2, ns := 8, body := [
    (.asg (.var 2) (.dct [])),
    (.for_ (.tup [(.var 3), (.var 4)]) (.enum (.var 1)) [(.asg (.var 5) (.ite (.cmp .gt (.var 3) (.cI 0)) (.idx (.var 1) (.bin .sub (.var 3) (.cI 1))) (.tup []))), (.for_ (.var 6) (.bi .sorted (.var 2)) [(.for_ (.var 7) (.var 4) [(.ite (.and (.cmp .nin (.var 7) (.var 5)) (.and (.call "do_cross" [(.var 0), (.var 6), (.var 7)]) (.cmp .lt (.bin .sub (.bin .sub (.var 3) (.idx (.var 2) (.var 6))) (.cI 1)) (.call "clearance" [(.var 0), (.var 6), (.var 7)])))) [(.ret (.tup [(.cS "early"), (.var 3), (.var 6), (.var 7)]))] [])])]), (.for_ (.var 6) (.var 4) [(.set 2 (.var 6) (.var 3))])]),
    (.ret .cN)] }
def d_judge_lamps : Def := { np := 2, ns := 3, body := [
    (.asg (.var 2) (.call "first_crossed" [(.var 0), (.var 1)])),
    (.ret (.ite (.isN true (.var 2)) (.var 2) (.call "first_early" [(.var 0), (.var 1)])))] }
def d_need_of : Def := { np := 2, ns := 4, body := [
    (.ret (.bi .sum (.comp (.bin .add (.var 3) (.call "clear_ticks" [(.var 0), (.var 2)])) (.tup [(.var 2), (.var 3)]) (.var 1) (.cB true) [2, 3])))] }
def d_is_pair : Def := { np := 2, ns := 2, body := [
    (.ite (.or (.not (.isi (.var 0) .tuple)) (.or (.cmp .ne (.bi .len (.var 0)) (.cI 2)) (.or (.not (.call "is_integer" [(.idx (.var 0) (.cI 0))])) (.not (.call "is_integer" [(.idx (.var 0) (.cI 1))]))))) [(.ret (.cB false))] []),
    (.ret (.and (.ch .le .lt (.cI 0) (.idx (.var 0) (.cI 0)) (.var 1)) (.cmp .gt (.idx (.var 0) (.cI 1)) (.cI 0))))] }
def d_judge_plan : Def := { np := 2, ns := 6, body := [
    (.asg (.var 2) (.bi .len (.call "stages" [(.var 0)]))),
    (.ite (.or (.not (.isi (.var 1) .tuple)) (.not (.bi .all (.comp (.call "is_pair" [(.var 5), (.var 2)]) (.var 5) (.var 1) (.cB true) [5])))) [(.ret (.tup [(.cS "form")]))] []),
    (.for_ (.var 3) (.range [(.cI 1), (.bi .len (.var 1))]) [(.ite (.cmp .eq (.idx (.idx (.var 1) (.var 3)) (.cI 0)) (.idx (.idx (.var 1) (.bin .sub (.var 3) (.cI 1))) (.cI 0))) [(.ret (.tup [(.cS "twice"), (.var 3)]))] [])]),
    (.asg (.var 4) (.call "need_of" [(.var 0), (.var 1)])),
    (.ret (.ite (.cmp .le (.var 4) (.idx (.var 0) (.cI 2))) .cN (.tup [(.cS "long"), (.var 4)])))] }
def d_capacity_of : Def := { np := 2, ns := 8, body := [
    (.asgs [(.var 2), (.var 3)] [(.call "stages" [(.var 0)]), (.comp (.cI 0) (.var 7) (.idx (.var 0) (.cI 0)) (.cB true) [7])]),
    (.for_ (.tup [(.var 4), (.var 5)]) (.var 1) [(.for_ (.var 6) (.idx (.var 2) (.var 4)) [(.augset 3 (.var 6) .add (.bin .sub (.var 5) (.cI 1)))])]),
    (.ret (.bi .tuple (.var 3)))] }
def d__law_clearance : Def := { np := 3, ns := 7, body := [
    (.for_ (.tup [(.var 3), (.var 4), (.var 5), (.var 6)]) (.idx (.var 0) (.cI 1)) [(.ite (.cmp .eq (.tup [(.var 3), (.var 4)]) (.tup [(.var 1), (.var 2)])) [(.ret (.var 5))] []), (.ite (.cmp .eq (.tup [(.var 3), (.var 4)]) (.tup [(.var 2), (.var 1)])) [(.ret (.var 6))] [])]),
    (.ret .cN)] }
def d__law_stages : Def := { np := 1, ns := 6, body := [
    (.asgs [(.var 1), (.var 2)] [(.bi .len (.idx (.var 0) (.cI 0))), (.lst [(.lst [])])]),
    (.for_ (.var 3) (.range [(.var 1)]) [(.asg (.var 2) (.bin .add (.var 2) (.comp (.bin .add (.var 5) (.lst [(.var 3)])) (.var 5) (.var 2) (.not (.call "_law_crosses_one" [(.var 0), (.var 5), (.var 3)])) [5])))]),
    (.asg (.var 4) (.lst [])),
    (.share 2),
    (.for_ (.var 5) (.var 2) [(.ite (.bi .all (.comp (.or (.cmp .inn (.var 3) (.var 5)) (.call "_law_crosses_one" [(.var 0), (.var 5), (.var 3)])) (.var 3) (.range [(.var 1)]) (.cB true) [3])) [(.app 4 (.bi .tuple (.var 5)))] [])]),
    (.ret (.bi .sorted (.var 4)))] }
def d__law_crosses_one : Def := { np := 3, ns := 4, body := [
    (.ret (.bi .any (.comp (.isN true (.call "_law_clearance" [(.var 0), (.var 2), (.var 3)])) (.var 3) (.var 1) (.cmp .ne (.var 3) (.var 2)) [3])))] }
def d__law_clearing : Def := { np := 2, ns := 5, body := [
    (.asg (.var 2) (.cI 0)),
    (.for_ (.var 3) (.var 1) [(.for_ (.var 4) (.range [(.bi .len (.idx (.var 0) (.cI 0)))]) [(.ite (.and (.cmp .ne (.var 3) (.var 4)) (.isN true (.call "_law_clearance" [(.var 0), (.var 3), (.var 4)]))) [(.asg (.var 2) (.bi2 .max (.var 2) (.call "_law_clearance" [(.var 0), (.var 3), (.var 4)])))] [])])]),
    (.ret (.var 2))] }
def d__law_capacity : Def := { np := 2, ns := 8, body := [
    (.asgs [(.var 2), (.var 3)] [(.call "_law_stages" [(.var 0)]), (.comp (.cI 0) (.var 7) (.idx (.var 0) (.cI 0)) (.cB true) [7])]),
    (.for_ (.tup [(.var 4), (.var 5)]) (.var 1) [(.for_ (.var 6) (.idx (.var 2) (.var 4)) [(.set 3 (.var 6) (.bin .sub (.bin .add (.idx (.var 3) (.var 6)) (.var 5)) (.cI 1)))])]),
    (.ret (.bi .tuple (.var 3)))] }
def d__law_plan_fits : Def := { np := 2, ns := 5, body := [
    (.asg (.var 2) (.call "_law_stages" [(.var 0)])),
    (.ret (.cmp .le (.bi .sum (.comp (.bin .add (.var 4) (.call "_law_clearing" [(.var 0), (.idx (.var 2) (.var 3))])) (.tup [(.var 3), (.var 4)]) (.var 1) (.cB true) [3, 4])) (.idx (.var 0) (.cI 2))))] }
def d__law_draw_crossing : Def := { np := 4, ns := 13, body := [
    (.asg (.var 4) (.lst [])),
    (.for_ (.var 5) (.var 2) [(.asg (.var 6) (.bin .add (.lst [.cN]) (.comp (.var 12) (.var 12) (.range [(.var 1)]) (.cmp .ne (.var 12) (.var 5)) [12]))), (.for_ (.var 7) (.range [(.bin .add (.cI 1) (.bi .int (.cmp .eq (.call "_law_pick" [(.var 0), (.cI 3)]) (.cI 0))))]) [(.asg (.var 8) (.tup [(.var 5), (.idx (.var 6) (.call "_law_pick" [(.var 0), (.bi .len (.var 6))]))])), (.ite (.cmp .nin (.var 8) (.var 4)) [(.app 4 (.var 8))] [])])]),
    (.share 4),
    (.asgs [(.var 4), (.var 9)] [(.sl (.call "_law_any_order" [(.var 0), (.var 4)]) .cN (.cI 4)), (.lst [])]),
    (.for_ (.var 10) (.range [(.bi .len (.var 4))]) [(.for_ (.var 11) (.range [(.bin .add (.var 10) (.cI 1)), (.bi .len (.var 4))]) [(.ite (.cmp .eq (.call "_law_pick" [(.var 0), (.cI 2)]) (.cI 0)) [(.app 9 (.tup [(.var 10), (.var 11), (.call "_law_pick" [(.var 0), (.cI 3)]), (.call "_law_pick" [(.var 0), (.cI 3)])]))] [])])]),
    (.ret (.tup [(.bi .tuple (.var 4)), (.bi .tuple (.var 9)), (.var 3)]))] }
def d__law_draw_plan : Def := { np := 2, ns := 8, body := [
    (.asgs [(.var 2), (.var 3), (.var 4)] [(.tup []), (.idx (.var 1) (.cI 2)), (.call "_law_stages" [(.var 1)])]),
    (.for_ (.var 5) (.call "_law_any_order" [(.var 0), (.lrange [(.bi .len (.var 4))])]) [(.asg (.var 6) (.bin .sub (.var 3) (.call "_law_clearing" [(.var 1), (.idx (.var 4) (.var 5))]))), (.ite (.and (.cmp .gt (.var 6) (.cI 0)) (.cmp .gt (.call "_law_pick" [(.var 0), (.cI 3)]) (.cI 0))) [(.asg (.var 7) (.bin .add (.cI 1) (.call "_law_pick" [(.var 0), (.var 6)]))), (.share 7), (.asgs [(.var 2), (.var 3)] [(.bin .add (.var 2) (.tup [(.tup [(.var 5), (.var 7)])])), (.bin .sub (.bin .sub (.var 3) (.var 7)) (.call "_law_clearing" [(.var 1), (.idx (.var 4) (.var 5))]))])] [])]),
    (.share 2),
    (.ret (.var 2))] }
def d__law_foes : Def := { np := 2, ns := 3, body := [
    (.ret (.comp (.var 2) (.var 2) (.range [(.bi .len (.idx (.var 0) (.cI 0)))]) (.and (.cmp .ne (.var 2) (.var 1)) (.isN true (.call "_law_clearance" [(.var 0), (.var 1), (.var 2)]))) [2]))] }
def d__law_some_crossing : Def := { np := 1, ns := 2, body := [
    (.asg (.var 1) (.call "_law_draw_crossing" [(.var 0), (.cI 4), (.sl (.lst [(.cI 0), (.cI 1), (.cI 2), (.cI 3)]) .cN (.bin .add (.cI 1) (.call "_law_pick" [(.var 0), (.cI 4)]))), (.bin .add (.cI 6) (.call "_law_pick" [(.var 0), (.cI 6)]))])),
    (.ret (.var 1))] }
def d__law_are_greens : Def := { np := 2, ns := 3, body := [
    (.ite (.not (.isi (.var 1) .tuple)) [(.ret (.cB false))] []),
    (.for_ (.var 2) (.var 1) [(.ite (.or (.not (.isi (.var 2) .int)) (.or (.isi (.var 2) .bool) (.not (.ch .le .lt (.cI 0) (.var 2) (.bi .len (.idx (.var 0) (.cI 0))))))) [(.ret (.cB false))] [])]),
    (.ret (.cmp .eq (.var 1) (.bi .tuple (.bi .sset (.var 1)))))] }
def d__law_tale_fault : Def := { np := 2, ns := 10, body := [
    (.ite (.or (.not (.isi (.var 1) .tuple)) (.cmp .inn (.cB false) (.comp (.call "_law_are_greens" [(.var 0), (.var 4)]) (.var 4) (.var 1) (.cB true) [4]))) [(.ret (.tup [(.cS "form")]))] []),
    (.asg (.var 2) (.dct [])),
    (.for_ (.tup [(.var 3), (.var 4)]) (.enum (.var 1)) [(.asg (.var 5) (.ite (.cmp .gt (.var 3) (.cI 0)) (.idx (.var 1) (.bin .sub (.var 3) (.cI 1))) (.tup []))), (.asg (.var 6) (.lst [])), (.for_ (.var 7) (.var 4) [(.asg (.var 6) (.bin .add (.var 6) (.comp (.tup [(.var 7), (.var 9)]) (.var 9) (.call "_law_foes" [(.var 0), (.var 7)]) (.and (.cmp .inn (.var 9) (.var 4)) (.cmp .lt (.var 7) (.var 9))) [9])))]), (.ite (.cmp .ne (.var 6) (.lst [])) [(.ret (.bin .add (.tup [(.cS "both"), (.bin .add (.var 3) (.cI 1))]) (.bi .min (.var 6))))] []), (.asg (.var 8) (.lst [])), (.forK (.var 7) 2 [(.for_ (.var 9) (.call "_law_foes" [(.var 0), (.var 7)]) [(.ite (.and (.cmp .inn (.var 9) (.var 4)) (.and (.cmp .nin (.var 9) (.var 5)) (.cmp .le (.bin .sub (.bin .add (.var 3) (.cI 1)) (.idx (.var 2) (.var 7))) (.call "_law_clearance" [(.var 0), (.var 7), (.var 9)])))) [(.app 8 (.tup [(.var 7), (.var 9)]))] [])])]), (.ite (.cmp .ne (.var 8) (.lst [])) [(.ret (.bin .add (.tup [(.cS "early"), (.bin .add (.var 3) (.cI 1))]) (.bi .min (.var 8))))] []), (.upd 2 (.bi .dict (.comp (.tup [(.var 7), (.bin .add (.var 3) (.cI 1))]) (.var 7) (.var 4) (.cB true) [7])))]),
    (.ret .cN)] }
def d_law : Def := { np := 1, ns := 19, body := [
    (.asg (.var 1) (.call "_law_open_cells" [(.var 0)])),
    (.asg (.var 2) (.call "_law_some_crossing" [(.var 1)])),
    (.asgs [(.var 3), (.var 4), (.var 5)] [(.bi .len (.idx (.var 2) (.cI 0))), (.tup []), (.bin .mul (.lst [(.cI 0)]) (.bi .len (.idx (.var 2) (.cI 0))))]),
    (.for_ (.var 6) (.range [(.bin .add (.cI 1) (.call "_law_pick" [(.var 1), (.cI 4)]))]) [(.asg (.var 7) (.call "_law_draw_plan" [(.var 1), (.var 2)])), (.ite (.or (.isN true (.call "judge_plan" [(.var 2), (.var 7)])) (.not (.call "_law_plan_fits" [(.var 2), (.var 7)]))) [(.ret (.cB false))] []), (.asg (.var 8) (.call "capacity_of" [(.var 2), (.var 7)])), (.ite (.cmp .ne (.var 8) (.call "_law_capacity" [(.var 2), (.var 7)])) [(.ret (.cB false))] []), (.asg (.var 9) (.bi .tuple (.comp (.call "lamps_at" [(.var 2), (.var 7), (.var 18)]) (.var 18) (.range [(.idx (.var 2) (.cI 2))]) (.cB true) [18]))), (.asg (.var 10) (.call "_law_stages" [(.var 2)])), (.for_ (.var 11) (.range [(.var 3)]) [(.set 5 (.var 11) (.bin .add (.bin .add (.idx (.var 5) (.var 11)) (.idx (.var 8) (.var 11))) (.bi .int (.and (.cmp .ne (.var 4) (.tup [])) (.and (.cmp .inn (.var 11) (.idx (.var 4) (.neg (.cI 1)))) (.cmp .inn (.var 11) (.idx (.var 9) (.cI 0)))))))), (.for_ (.tup [(.var 12), (.var 13)]) (.zip [(.var 7), (.sl (.var 7) (.cI 1) .cN)]) [(.asg (.var 14) (.and (.cmp .inn (.var 11) (.idx (.var 10) (.idx (.var 12) (.cI 0)))) (.cmp .inn (.var 11) (.idx (.var 10) (.idx (.var 13) (.cI 0)))))), (.set 5 (.var 11) (.bin .add (.idx (.var 5) (.var 11)) (.bi .int (.and (.var 14) (.cmp .eq (.call "_law_clearing" [(.var 2), (.idx (.var 10) (.idx (.var 12) (.cI 0)))]) (.cI 0))))))])]), (.asg (.var 4) (.bin .add (.var 4) (.var 9)))]),
    (.share 4),
    (.ite (.or (.isN true (.call "_law_tale_fault" [(.var 2), (.var 4)])) (.isN true (.call "judge_tale" [(.var 2), (.var 4)]))) [(.ret (.cB false))] []),
    (.ite (.isN true (.call "judge_lamps" [(.var 2), (.bi .list (.var 4))])) [(.ret (.cB false))] []),
    (.asg (.var 15) (.bin .mul (.lst [(.tup [(.cS "tick")])]) (.call "widest_clearance" [(.var 2)]))),
    (.for_ (.var 16) (.call "wishes_for" [(.var 4), (.cI 0)]) [(.asg (.var 15) (.bin .add (.var 15) (.lst [(.tup [(.cS "wish"), (.var 16)]), (.tup [(.cS "tick")])])))]),
    (.share 15),
    (.asg (.var 17) (.sl (.idx (.call "tale_of" [(.var 2), (.var 15)]) (.cI 1)) (.call "widest_clearance" [(.var 2)]) .cN)),
    (.ret (.and (.cmp .eq (.var 17) (.var 4)) (.cmp .eq (.call "cars_let" [(.var 2), (.var 4)]) (.bi .tuple (.var 5)))))] }
def tab : List (String × Df) := [("is_integer", .code d_is_integer),
  ("do_cross", .code d_do_cross),
  ("clearance", .code d_clearance),
  ("is_whole", .code d_is_whole),
  ("foes_of", .code d_foes_of),
  ("widest_clearance", .code d_widest_clearance),
  ("is_greens", .code d_is_greens),
  ("new_interlock", .code d_new_interlock),
  ("is_wish", .code d_is_wish),
  ("wish_heard", .code d_wish_heard),
  ("is_lamp", .code d_is_lamp),
  ("lamp_heard", .code d_lamp_heard),
  ("last_green", .code d_last_green),
  ("is_barred", .code d_is_barred),
  ("first_tick", .code d_first_tick),
  ("next_shown", .code d_next_shown),
  ("tick_fault", .code d_tick_fault),
  ("judge_tale", .code d_judge_tale),
  ("cars_let", .code d_cars_let),
  ("tale_of", .code d_tale_of),
  ("wishes_for", .code d_wishes_for),
  ("free_sets", .code d_free_sets),
  ("is_full", .code d_is_full),
  ("stages", .code d_stages),
  ("clear_ticks", .code d_clear_ticks),
  ("greens", .code d_greens),
  ("lamps_at", .code d_lamps_at),
  ("first_crossed", .code d_first_crossed),
  ("first_early", .code d_first_early),
  ("judge_lamps", .code d_judge_lamps),
  ("need_of", .code d_need_of),
  ("is_pair", .code d_is_pair),
  ("judge_plan", .code d_judge_plan),
  ("capacity_of", .code d_capacity_of),
  ("_law_open_cells", .prim openF),
  ("_law_pick", .prim pickF),
  ("_law_any_order", .prim orderF),
  ("_law_clearance", .code d__law_clearance),
  ("_law_stages", .code d__law_stages),
  ("_law_crosses_one", .code d__law_crosses_one),
  ("_law_clearing", .code d__law_clearing),
  ("_law_capacity", .code d__law_capacity),
  ("_law_plan_fits", .code d__law_plan_fits),
  ("_law_draw_crossing", .code d__law_draw_crossing),
  ("_law_draw_plan", .code d__law_draw_plan),
  ("_law_foes", .code d__law_foes),
  ("_law_some_crossing", .code d__law_some_crossing),
  ("_law_are_greens", .code d__law_are_greens),
  ("_law_tale_fault", .code d__law_tale_fault),
  ("law", .code d_law)]
def P (f : String) : Option Df := tab.lookup f
end Gh
set_option linter.all false
set_option maxRecDepth 10000
namespace Gh

/-! ### plain lists of numbers as trees -/
def eL (xs : List Int) : List T := xs.map T.int
def eR (xs : List Int) : T := .tup (eL xs)
abbrev Four := Int × Int × Int × Int
def e4 (q : Four) : T := .tup [.int q.1, .int q.2.1, .int q.2.2.1, .int q.2.2.2]
/-- a crossing -/
structure Cr where
  mv : List T
  X : List Four
  len : Int
def Cr.n (c : Cr) : Nat := c.mv.length
def Cr.e (c : Cr) : T := .tup [.tup c.mv, .tup (c.X.map e4), .int c.len]
/-- the first clearance that is told of i, then j -/
def fnd : List Four → Int → Int → Option Int
  | [], _, _ => none
  | q :: r, i, j => if q.1 = i ∧ q.2.1 = j then some q.2.2.1 else if q.2.1 = i ∧ q.1 = j then some q.2.2.2 else fnd r i j
def clr (c : Cr) (i j : Int) : Int := (fnd c.X i j).getD 0
def crs (c : Cr) (i j : Int) : Bool := (fnd c.X i j).isSome
def iota (n : Nat) : List Int := (List.range n).map fun (k : Nat) => (k : Int)

/-! ### walks -/
section
variable {Φ : String → List T → Src → Option (T × Src)} {env env1 : List Slot} {s s1 s2 : Src} {m : Bool} {a b c e it : E} {t x y : T} {o : Option (Out × List Slot × Src)} {st : S} {r u v : List S} {tg : Tg} {xs : List T}
theorem compL_pure {α : Type} {elt c : List Slot → Src → Option (T × Src)} {enc : α → T} (p : α → Bool) (f : α → T) : ∀ (ys : List α),
    (∀ y ∈ ys, ∃ env1, asgTg tg (enc y) env = some env1 ∧ c env1 s = some (.bl (p y), s) ∧ (p y = true → elt env1 s = some (f y, s))) → compL elt c tg env (ys.map enc) s = some ((ys.filter p).map f, s)
  | [], _ => rfl
  | y :: ys, h => by
    obtain ⟨env1, h1, h2, h3⟩ := h y List.mem_cons_self
    have ih := compL_pure p f ys fun z hz => h z (List.mem_cons_of_mem _ hz)
    simp only [List.map_cons, compL, h1, h2]
    cases hp : p y with
    | true => simp only [h3 hp, ih, List.filter_cons, hp, if_true, List.map_cons]
    | false => simp only [ih, List.filter_cons, hp, Bool.false_eq_true, if_false]
theorem ev_comp {elt : E} {own : List Nat} {ys : List T} (h1 : (evE Φ it true env s).bind seqS = some (xs, s1)) (h2 : ownFree env own = true)
    (h3 : compL (evE Φ elt false) (evE Φ c true) tg (wipe env own) xs s1 = some (ys, s2)) (h4 : ys.length ≤ line) : evE Φ (.comp elt tg it c own) m env s = some (.lst ys, s2) := by
  simp only [evE, h1, h2, if_true, h3, fits, h4]
/-- a comprehension whose parts draw nothing -/
theorem ev_compP {α : Type} {elt : E} {own : List Nat} {enc : α → T} (ys : List α) (p : α → Bool) (f : α → T) (h1 : (evE Φ it true env s).bind seqS = some (ys.map enc, s1)) (h2 : ownFree env own = true) (hl : ys.length ≤ 100000)
    (h : ∀ y ∈ ys, ∃ env1, asgTg tg (enc y) (wipe env own) = some env1 ∧ evE Φ c true env1 s1 = some (.bl (p y), s1) ∧ (p y = true → evE Φ elt false env1 s1 = some (f y, s1))) :
    evE Φ (.comp elt tg it c own) m env s = some (.lst ((ys.filter p).map f), s1) :=
  ev_comp h1 h2 (compL_pure p f ys h) (by rw [List.length_map]; have := List.length_filter_le p ys; unfold line; omega)
/-- without a test -/
theorem ev_compM {α : Type} {elt : E} {own : List Nat} {enc : α → T} (ys : List α) (f : α → T) (h1 : (evE Φ it true env s).bind seqS = some (ys.map enc, s1)) (h2 : ownFree env own = true) (hl : ys.length ≤ 100000)
    (h : ∀ y ∈ ys, ∃ env1, asgTg tg (enc y) (wipe env own) = some env1 ∧ evE Φ elt false env1 s1 = some (f y, s1)) :
    evE Φ (.comp elt tg it (.cB true) own) m env s = some (.lst (ys.map f), s1) := by
  have := ev_compP (Φ := Φ) (c := .cB true) (m := m) ys (fun _ => true) f h1 h2 hl fun y hy => by
    obtain ⟨e1, h3, h4⟩ := h y hy
    exact ⟨e1, h3, rfl, fun _ => h4⟩
  rw [List.filter_eq_self.mpr (by simp)] at this
  exact this
theorem ev_bi {f : B} (h : evE Φ a true env s = some (x, s1)) (k : biT f x = some t) : evE Φ (.bi f a) m env s = some (t, s1) := by simp only [evE, h, k, Option.map_some]
theorem ev_bin {o : Op} (h : evE Φ a true env s = some (x, s1)) (k : evE Φ b true env s1 = some (y, s2)) (q : binT o x y = some t) : evE Φ (.bin o a b) m env s = some (t, s2) := by simp only [evE, h, k, q, Option.map_some]
theorem ev_cmp {o : Cm} {z : Bool} (h : evE Φ a true env s = some (x, s1)) (k : evE Φ b true env s1 = some (y, s2)) (q : cmpT o x y = some z) : evE Φ (.cmp o a b) m env s = some (.bl z, s2) := by simp only [evE, h, k, q, Option.map_some]
theorem ev_not {z : Bool} (h : evE Φ a true env s = some (.bl z, s1)) : evE Φ (.not a) m env s = some (.bl (!z), s1) := by simp only [evE, h]
theorem ev_idx (h : evE Φ a true env s = some (x, s1)) (k : evE Φ b false env s1 = some (y, s2)) (q : idxT x y = some t) : evE Φ (.idx a b) m env s = some (t, s2) := by simp only [evE, h, k, q, Option.map_some]
theorem ev_call {f : String} {es : List E} (h : evEs Φ es env s = some (xs, s1)) (k : Φ f xs s1 = some (t, s2)) : evE Φ (.call f es) m env s = some (t, s2) := by simp only [evE, h, k]
theorem ev_and {z : Bool} (h : evE Φ a true env s = some (.bl z, s1)) (k : z = true → evE Φ b false env s1 = some (t, s2)) (k2 : z = false → t = .bl false ∧ s2 = s1) : evE Φ (.and a b) m env s = some (t, s2) := by
  cases z with
  | true => simp only [evE, h, k rfl]
  | false => obtain ⟨rfl, rfl⟩ := k2 rfl; simp only [evE, h]
theorem ev_or {z : Bool} (h : evE Φ a true env s = some (.bl z, s1)) (k : z = false → evE Φ b false env s1 = some (t, s2)) (k2 : z = true → t = .bl true ∧ s2 = s1) : evE Φ (.or a b) m env s = some (t, s2) := by
  cases z with
  | false => simp only [evE, h, k rfl]
  | true => obtain ⟨rfl, rfl⟩ := k2 rfl; simp only [evE, h]
/-- both operands are told -/
theorem ev_andB {p q : Bool} (h : evE Φ a true env s = some (.bl p, s)) (k : p = true → evE Φ b false env s = some (.bl q, s)) : evE Φ (.and a b) m env s = some (.bl (p && q), s) :=
  ev_and h (fun e => by rw [k e, e, Bool.true_and]) (fun e => by rw [e, Bool.false_and]; exact ⟨rfl, rfl⟩)
theorem ev_orB {p q : Bool} (h : evE Φ a true env s = some (.bl p, s)) (k : p = false → evE Φ b false env s = some (.bl q, s)) : evE Φ (.or a b) m env s = some (.bl (p || q), s) :=
  ev_or h (fun e => by rw [k e, e, Bool.false_or]) (fun e => by rw [e, Bool.true_or]; exact ⟨rfl, rfl⟩)
theorem ev_iteB {z : Bool} (h : evE Φ a true env s = some (.bl z, s1)) (k1 : z = true → evE Φ b false env s1 = some (t, s2)) (k2 : z = false → evE Φ c false env s1 = some (t, s2)) : evE Φ (.ite a b c) m env s = some (t, s2) := by
  cases z with
  | true => simp only [evE, h, k1 rfl]
  | false => simp only [evE, h, k2 rfl]
theorem ev_tup {es : List E} (h : evEs Φ es env s = some (xs, s1)) (hl : xs.length ≤ line) : evE Φ (.tup es) m env s = some (.tup xs, s1) := by simp only [evE, h, hl, if_true]
theorem ev_lst {es : List E} (h : evEs Φ es env s = some (xs, s1)) (hl : xs.length ≤ line) : evE Φ (.lst es) m env s = some (.lst xs, s1) := by simp only [evE, h, fits, hl, if_true]

theorem x_nx (h : evS Φ st env s = some (.nx, env1, s1)) (k : evSs Φ r env1 s1 = o) : evSs Φ (st :: r) env s = o := by simp only [evSs, h, k]
theorem x_rt (h : evS Φ st env s = some (.rt t, env1, s1)) : evSs Φ (st :: r) env s = some (.rt t, env1, s1) := by simp only [evSs, h]
theorem x_one (h : evS Φ st env s = some (.nx, env1, s1)) : evSs Φ [st] env s = some (.nx, env1, s1) := by simp only [evSs, h]
theorem x_asg {j : Nat} {sl : Slot} (h : evE Φ e false env s = some (t, s1)) (hj : Nat.blt j env.length = true) (hs : mkS e t = sl) : evS Φ (.asg (.var j) e) env s = some (.nx, env.set j sl, s1) := by
  have hj : j < env.length := Nat.blt_eq.mp hj
  simp only [evS, h, hj, if_true, hs]
theorem x_asgT {ts : List Tg} (h : evE Φ e false env s = some (t, s1)) (k : asgTg (.tup ts) t env = some env1) : evS Φ (.asg (.tup ts) e) env s = some (.nx, env1, s1) := by simp only [evS, h, k]
theorem x_ret (h : evE Φ e false env s = some (t, s1)) : evS Φ (.ret e) env s = some (.rt t, env, s1) := by simp only [evS, h]
theorem x_t (h : evE Φ c true env s = some (.bl true, s1)) (k : evSs Φ u env s1 = o) : evS Φ (.ite c u v) env s = o := by simp only [evS, h, k]
theorem x_f (h : evE Φ c true env s = some (.bl false, s1)) (k : evSs Φ v env s1 = o) : evS Φ (.ite c u v) env s = o := by simp only [evS, h, k]
theorem x_tz {z : Bool} (h : evE Φ c true env s = some (.bl z, s1)) (hz : z = true) (k : evSs Φ u env s1 = o) : evS Φ (.ite c u v) env s = o := by subst hz; exact x_t h k
theorem x_fz {z : Bool} (h : evE Φ c true env s = some (.bl z, s1)) (hz : z = false) (k : evSs Φ v env s1 = o) : evS Φ (.ite c u v) env s = o := by subst hz; exact x_f h k
theorem ev_ch {o p : Cm} {z : T} {b1 b2 : Bool} (h : evE Φ a true env s = some (x, s1)) (k : evE Φ b true env s1 = some (y, s2)) (h1 : cmpT o x y = some b1) (k2 : evE Φ c true env s2 = some (z, s2)) (h2 : cmpT p y z = some b2) : evE Φ (.ch o p a b c) m env s = some (.bl (b1 && b2), s2) := by
  cases b1 with
  | true => simp only [evE, h, k, h1, k2, h2, Option.map_some, Bool.true_and]
  | false => simp only [evE, h, k, h1, Bool.false_and]
theorem ev_bi2 {f : B} (h : evE Φ a true env s = some (x, s1)) (k : evE Φ b true env s1 = some (y, s2)) (q : biT2 f x y = some t) : evE Φ (.bi2 f a b) m env s = some (t, s2) := by simp only [evE, h, k, q, Option.map_some]
theorem es_star {es : List E} {xs ys : List T} (h : evE Φ e true env s = some (x, s1)) (hx : seqN x = some xs) (k : evEs Φ es env s1 = some (ys, s2)) : evEs Φ (.star e :: es) env s = some (xs ++ ys, s2) := by simp only [evEs, h, hx, k]
def isSt : E → Bool
  | .star _ => true
  | _ => false
theorem es_cons {es : List E} {ys : List T} (h : evE Φ e false env s = some (x, s1)) (k : evEs Φ es env s1 = some (ys, s2)) (hs : isSt e = false := by rfl) : evEs Φ (e :: es) env s = some (x :: ys, s2) := by
  cases e <;> first | (cases hs; done) | (simp only [evEs, h, k])
theorem es_nil : evEs Φ [] env s = some ([], s) := rfl
theorem ts_cons {es : List E} {mm : Bool} {ys : List T} (h : evE Φ e mm env s = some (x, s1)) (k : evTs Φ es mm env s1 = some (ys, s2)) : evTs Φ (e :: es) mm env s = some (x :: ys, s2) := by simp only [evTs, h, k]
theorem sq_of (h : evE Φ e m env s = some (x, s1)) (hx : seqOf x = some xs) : (evE Φ e m env s).bind seqS = some (xs, s1) := by rw [h]; simp only [Option.bind_some, seqS, hx, Option.map_some]
theorem ev_isN_non {neg : Bool} (h : evE Φ a true env s = some (.non, s1)) : evE Φ (.isN neg a) m env s = some (.bl (!neg), s1) := by simp only [evE, h]
theorem ev_isN {neg : Bool} (h : evE Φ a true env s = some (x, s1)) (hx : x ≠ .non) : evE Φ (.isN neg a) m env s = some (.bl neg, s1) := by
  cases x <;> first | exact absurd rfl hx | simp only [evE, h]
theorem ev_dctS {o : E} {ds : List E} {kvs ps : List (K × T)} (h : evE Φ o true env s = some (.dK kvs, s1)) (hl : kvs.length ≤ 1000) (k : evD Φ ds env s1 = some (ps, s2)) (hp : ps.length ≤ 15) : evE Φ (.dctS o ds) m env s = some (.dK (merge (merge [] kvs) (merge [] ps)), s2) := by simp only [evE, h, hl, if_true, k, hp]
theorem ed_nil : evD Φ [] env s = some ([], s) := rfl
theorem ed_cons {kx vx : E} {r : List E} {kt : T} {kk : K} {ps : List (K × T)} {s3 : Src} (h : evE Φ kx false env s = some (kt, s1)) (k : evE Φ vx false env s1 = some (t, s2)) (q : keyK kt = some kk) (w : evD Φ r env s2 = some (ps, s3)) : evD Φ (.kv kx vx :: r) env s = some ((kk, t) :: ps, s3) := by simp only [evD, h, k, q, w]
theorem ev_get {o kx : E} {r : Option T} (h : evE Φ o true env s = some (x, s1)) (k : evE Φ kx false env s1 = some (y, s2)) (q : dlook x y = some r) : evE Φ (.get o kx) m env s = some (r.getD .non, s2) := by simp only [evE, h, k, q, Option.map_some]
theorem x_ext {i : Nat} {xs ys : List T} (h : evE Φ e true env s = some (.lst ys, s1)) (hi : env[i]? = some (.ow (.lst xs))) (hl : xs.length + ys.length ≤ line) : evS Φ (.ext i e) env s = some (.nx, env.set i (.ow (.lst (xs ++ ys))), s1) := by simp only [evS, h, hi, hl, if_true]
theorem x_upd {i : Nat} {xs ys : List (K × T)} (h : evE Φ e true env s = some (.dK ys, s1)) (hi : env[i]? = some (.ow (.dK xs))) (hl : xs.length + ys.length ≤ line) : evS Φ (.upd i e) env s = some (.nx, env.set i (.ow (.dK (merge xs ys))), s1) := by simp only [evS, h, hi, hl, if_true]
theorem x_set {i : Nat} {ke : E} {kt : T} (h : evE Φ e false env s = some (t, s1)) (k : evE Φ ke false env s1 = some (kt, s2)) (q : setC i kt t env = some env1) : evS Φ (.set i ke e) env s = some (.nx, env1, s2) := by simp only [evS, h, k, q]
theorem ev_callL {f : String} {es : List E} (h : evTs Φ es true env s = some (xs, s1)) (hl : lendB env es = true) (k : Φ f xs s1 = some (t, s2)) (hp : plain t = true) : evE Φ (.callL f es) m env s = some (t, s2) := by simp only [evE, h, hl, k, hp]; rfl
theorem ev_and_f (h : evE Φ a true env s = some (.bl false, s1)) : evE Φ (.and a b) m env s = some (.bl false, s1) := by simp only [evE, h]
theorem ev_and_t (h : evE Φ a true env s = some (.bl true, s1)) (k : evE Φ b false env s1 = some (t, s2)) : evE Φ (.and a b) m env s = some (t, s2) := by simp only [evE, h, k]
theorem ev_and_z {z : Bool} (h : evE Φ a true env s = some (.bl z, s1)) (hz : z = false) : evE Φ (.and a b) m env s = some (.bl false, s1) := by subst hz; exact ev_and_f h
theorem ev_and_y {z : Bool} (h : evE Φ a true env s = some (.bl z, s1)) (hz : z = true) (k : evE Φ b false env s1 = some (t, s2)) : evE Φ (.and a b) m env s = some (t, s2) := by subst hz; exact ev_and_t h k
theorem ev_bz {z w : Bool} (h : evE Φ a m env s = some (.bl z, s1)) (hz : z = w) : evE Φ a m env s = some (.bl w, s1) := by subst hz; exact h
theorem ev_dcomp {kx vx : E} {own : List Nat} {ps : List T} {d : T} (h1 : (evE Φ it true env s).bind seqS = some (xs, s1)) (h2 : ownFree env own = true)
    (h3 : compL (fun env1 s => match evE Φ kx false env1 s with
        | none => none
        | some (x, s2) => (match evE Φ vx false env1 s2 with
          | none => none
          | some (y, s3) => some (.tup [x, y], s3))) (evE Φ c true) tg (wipe env own) xs s1 = some (ps, s2)) (h4 : dputs (.dK []) ps = some d) : evE Φ (.dcomp kx vx tg it c own) m env s = some (d, s2) := by
  simp only [evE, h1, h2, if_true]
  split
  · rename_i e
    exact absurd (e.symm.trans h3) (by simp)
  · rename_i e
    have := e.symm.trans h3
    cases this
    simp only [h4]
theorem x_aug {i : Nat} {o : Op} {a b d : Int} (hi : env[i]? = some (.sh (.int a))) (h : evE Φ e true env s = some (.int b, s1)) (q : binT o (.int a) (.int b) = some (.int d)) : evS Φ (.aug i o e) env s = some (.nx, env.set i (.sh (.int d)), s1) := by simp only [evS, hi, h, q]
theorem x_augset {i : Nat} {ke : E} {kt d : T} {o : Op} {a b z : Int} (hi : (env[i]?).bind contS = some d) (k : evE Φ ke false env s = some (kt, s1)) (hx : idxT d kt = some (.int a)) (h : evE Φ e true env s1 = some (.int b, s2)) (q : binT o (.int a) (.int b) = some (.int z)) (w : setC i kt (.int z) env = some env1) :
    evS Φ (.augset i ke o e) env s = some (.nx, env1, s2) := by simp only [evS, hi, k, hx, h, q, w]
theorem x_for (h : (evE Φ it false env s).bind seqS = some (xs, s1)) (k : forL (evSs Φ r) tg xs env s1 = o) : evS Φ (.for_ tg it r) env s = o := by simp only [evS, h, k]
theorem x_app {i : Nat} {ys : List T} (h : evE Φ e false env s = some (t, s1)) (hi : env[i]? = some (.ow (.lst ys))) (hl : ys.length < line) : evS Φ (.app i e) env s = some (.nx, env.set i (.ow (.lst (ys ++ [t]))), s1) := by simp only [evS, h, hi, hl, if_true]
def isO2 : Slot → Bool
  | .ow2 _ => true
  | _ => false
theorem x_share {i : Nat} {sl : Slot} (h : env[i]? = some sl) (h2 : isO2 sl = false) : evS Φ (.share i) env s = some (.nx, env.set i (shareS sl), s) := by
  cases sl <;> first | (simp only [evS, h]; done) | cases h2
theorem fn_rt {d : Def} {args : List T} (hl : args.length = d.np) (h : evSs Φ d.body (args.map .sh ++ List.replicate (d.ns - d.np) .un) s = some (.rt t, env1, s1)) : evFn Φ d args s = some (t, s1) := by
  simp only [evFn, hl, if_true, h]
/-- a loop that goes through -/
theorem forL_inv {body : List Slot → Src → Option (Out × List Slot × Src)} (Inv : Nat → List Slot → Src → Prop) : ∀ (xs : List T) (k0 : Nat) (env : List Slot) (s : Src), Inv k0 env s →
    (∀ k x env s, xs[k]? = some x → Inv (k0 + k) env s → ∃ e1 e2 s2, asgTg tg x env = some e1 ∧ body e1 s = some (.nx, e2, s2) ∧ Inv (k0 + k + 1) e2 s2) →
    ∃ env' s', forL body tg xs env s = some (.nx, env', s') ∧ Inv (k0 + xs.length) env' s'
  | [], k0, env, s, h0, _ => ⟨env, s, rfl, h0⟩
  | x :: xs, k0, env, s, h0, hs => by
    obtain ⟨e1, e2, s2, h1, h2, h3⟩ := hs 0 x env s rfl h0
    obtain ⟨env', s', h4, h5⟩ := forL_inv Inv xs (k0 + 1) e2 s2 h3 fun k y env s hk hi => by
      have := hs (k + 1) y env s (by simpa using hk) (by rw [show k0 + (k + 1) = k0 + 1 + k by omega]; exact hi)
      rw [show k0 + (k + 1) + 1 = k0 + 1 + k + 1 by omega] at this
      exact this
    refine ⟨env', s', ?_, by rw [show k0 + (x :: xs).length = k0 + 1 + xs.length by simp; omega]; exact h5⟩
    simp only [forL, h1, h2, h4]
/-- the same over encoded items, each of which keeps a word about the slots -/
theorem forL_all {α : Type} {enc : α → T} {body : List Slot → Src → Option (Out × List Slot × Src)} (Inv : List Slot → Src → Prop) (ys : List α) {env : List Slot} {s : Src} (h0 : Inv env s)
    (hs : ∀ y env s, y ∈ ys → Inv env s → ∃ e1 e2 s2, asgTg tg (enc y) env = some e1 ∧ body e1 s = some (.nx, e2, s2) ∧ Inv e2 s2) : ∃ env' s', forL body tg (ys.map enc) env s = some (.nx, env', s') ∧ Inv env' s' :=
  forL_inv (fun _ => Inv) (ys.map enc) 0 env s h0 fun k x env s hk hi => by
    rw [List.getElem?_map, Option.map_eq_some_iff] at hk
    obtain ⟨y, hy, rfl⟩ := hk
    exact hs y env s (List.mem_of_getElem? hy) hi
end
theorem blsOf_map {α : Type} (xs : List α) (f : α → Bool) : blsOf (xs.map fun x => T.bl (f x)) = some (xs.map f) := by
  induction xs with
  | nil => rfl
  | cons x xs ih => simp [blsOf, ih]
theorem any_map {α : Type} (xs : List α) (f : α → Bool) : biT .any (.lst (xs.map fun x => T.bl (f x))) = some (.bl (xs.any f)) := by
  show (blsOf _).map _ = _
  rw [blsOf_map]
  simp [List.any_map]
theorem all_map {α : Type} (xs : List α) (f : α → Bool) : biT .all (.lst (xs.map fun x => T.bl (f x))) = some (.bl (xs.all f)) := by
  show (blsOf _).map _ = _
  rw [blsOf_map]
  simp [List.all_map]
theorem depths_eL (xs : List Int) : depths (eL xs) = 0 := by
  induction xs with
  | nil => rfl
  | cons x xs ih => simp [eL, depths, depth] at ih ⊢; exact ih
theorem flats_eL (xs : List Int) : flats (eL xs) = true := by
  induction xs with
  | nil => rfl
  | cons x xs ih => simp [eL, flats, flat] at ih ⊢; exact ih
theorem data_eR (xs : List Int) : data (eR xs) = true := by simp [data, eR, flat, depth, flats_eL, depths_eL]
theorem data_eLl (xs : List Int) : data (.lst (eL xs)) = true := by simp [data, flat, depth, flats_eL, depths_eL]
theorem data_int (i : Int) : data (.int i) = true := by simp [data, flat, depth]
theorem inT_eL (i : Int) (xs : List Int) : inT (.int i) (eL xs) = xs.contains i := by
  induction xs with
  | nil => rfl
  | cons x xs ih =>
    simp only [inT, eL, List.map_cons, List.any_cons, eqT] at ih ⊢
    rw [ih, List.contains_cons]
    congr 1
    rw [Bool.eq_iff_iff, decide_eq_true_eq, beq_iff_eq]
    exact eq_comm
theorem in_eR (i : Int) (xs : List Int) : cmpT .inn (.int i) (eR xs) = some (xs.contains i) := by
  show (if data (.int i) && data (eR xs) then some (inT (.int i) (eL xs)) else none) = _
  rw [data_int, data_eR, inT_eL]; rfl
theorem in_eLl (i : Int) (xs : List Int) : cmpT .inn (.int i) (.lst (eL xs)) = some (xs.contains i) := by
  show (if data (.int i) && data (.lst (eL xs)) then some (inT (.int i) (eL xs)) else none) = _
  rw [data_int, data_eLl, inT_eL]; rfl
theorem nin_eR (i : Int) (xs : List Int) : cmpT .nin (.int i) (eR xs) = some (!xs.contains i) := by
  show (if data (.int i) && data (eR xs) then some (!inT (.int i) (eL xs)) else none) = _
  rw [data_int, data_eR, inT_eL]; rfl
theorem nin_eLl (i : Int) (xs : List Int) : cmpT .nin (.int i) (.lst (eL xs)) = some (!xs.contains i) := by
  show (if data (.int i) && data (.lst (eL xs)) then some (!inT (.int i) (eL xs)) else none) = _
  rw [data_int, data_eLl, inT_eL]; rfl
theorem eqTs_eL : ∀ (xs ys : List Int), eqTs (eL xs) (eL ys) = decide (xs = ys)
  | [], [] => rfl
  | [], _ :: _ => by rfl
  | _ :: _, [] => by rfl
  | x :: xs, y :: ys => by
    have := eqTs_eL xs ys
    show (eqT (.int x) (.int y) && eqTs (eL xs) (eL ys)) = _
    rw [this]
    simp only [eqT]
    rw [Bool.eq_iff_iff]; simp
theorem alike_int (xs : List Int) : allAlike (eL xs) = true := by
  simp only [allAlike, eL, List.all_map, List.all_eq_true, Function.comp]
  intro x _
  rw [Bool.and_eq_true]
  exact ⟨data_int x, by simp [alikeT]⟩
def leI (a b : Int) : Bool := decide (a ≤ b)
theorem leT_int (a b : Int) : leT (.int a) (.int b) = leI a b := by
  simp only [leT, ltB, leI]
  rw [Bool.eq_iff_iff]; simp
theorem sort_ints (xs : List Int) : biT .sorted (.lst (eL xs)) = some (.lst (eL (xs.mergeSort leI))) := by
  have h : (eL xs).mergeSort leT = eL (xs.mergeSort leI) := by
    unfold eL
    rw [List.map_mergeSort]
    intro a _ b _
    exact (leT_int a b).symm
  show (sortT (eL xs)).map T.lst = _
  have : sortT (eL xs) = some ((eL xs).mergeSort leT) := by
    match xs with
    | [] => simp [eL, sortT]
    | [x] => simp [eL, sortT]
    | x :: y :: r =>
      have ha := alike_int (x :: y :: r)
      have hb : (eL (x :: y :: r)).all isInt = true := by simp [eL, isInt]
      show (if allAlike (eL (x :: y :: r)) && ((eL (x :: y :: r)).all isTup1 || (eL (x :: y :: r)).all isInt) then _ else _) = _
      rw [ha, hb]; simp
      rfl
  rw [this, h]; rfl
theorem sortI_mem {xs : List Int} {x : Int} : x ∈ xs.mergeSort leI ↔ x ∈ xs := (List.mergeSort_perm xs leI).mem_iff
theorem sortI_asc {xs : List Int} (h : xs.Pairwise (· < ·)) : xs.mergeSort leI = xs := List.mergeSort_of_pairwise (h.imp fun h => by simp [leI]; omega)
theorem sortI_perm {xs ys : List Int} (h : xs.Perm ys) (a : ys.Pairwise (· < ·)) : xs.mergeSort leI = ys := by
  refine List.Perm.eq_of_pairwise (le := fun a b => leI a b = true) (fun a b _ _ h1 h2 => ?_) (List.pairwise_mergeSort (fun a b c => ?_) (fun a b => ?_) xs) (a.imp fun h => by simp [leI]; omega) ((List.mergeSort_perm xs leI).trans h)
  · simp [leI] at h1 h2; omega
  · simp [leI]; omega
  · simp [leI]; omega
/-- the greatest -/
def mx (x : Int) (xs : List Int) : Int := xs.foldl (fun a y => if a < y then y else a) x
theorem mx_ge (x : Int) (xs : List Int) : x ≤ mx x xs ∧ ∀ y ∈ xs, y ≤ mx x xs := by
  induction xs generalizing x with
  | nil => exact ⟨Int.le_refl _, fun y h => by cases h⟩
  | cons z zs ih =>
    simp only [mx, List.foldl_cons] at ih ⊢
    split
    · rename_i h
      obtain ⟨h1, h2⟩ := ih z
      exact ⟨by omega, fun y hy => by rcases List.mem_cons.mp hy with rfl | hy; exact h1; exact h2 y hy⟩
    · rename_i h
      obtain ⟨h1, h2⟩ := ih x
      exact ⟨h1, fun y hy => by rcases List.mem_cons.mp hy with rfl | hy; omega; exact h2 y hy⟩
theorem mx_mem (x : Int) (xs : List Int) : mx x xs = x ∨ mx x xs ∈ xs := by
  induction xs generalizing x with
  | nil => exact .inl rfl
  | cons z zs ih =>
    simp only [mx, List.foldl_cons] at ih ⊢
    split
    · rcases ih z with h | h
      · rw [h]; exact .inr List.mem_cons_self
      · exact .inr (List.mem_cons_of_mem _ h)
    · rcases ih x with h | h
      · exact .inl h
      · exact .inr (List.mem_cons_of_mem _ h)
theorem maxT_eL (x : Int) (xs : List Int) : maxT (eL (x :: xs)) = some (.int (mx x xs)) := by
  have ha := alike_int (x :: xs)
  show (if allAlike (eL (x :: xs)) then some ((eL xs).foldl (fun a y => if ltB a y then y else a) (.int x)) else none) = _
  rw [ha, if_pos rfl]
  clear ha
  congr 1
  induction xs generalizing x with
  | nil => rfl
  | cons y ys ih =>
    simp only [eL, List.map_cons, List.foldl_cons, mx, ltB] at ih ⊢
    by_cases h : x < y
    · simp only [h, decide_true, if_true]; exact ih y
    · simp only [h, decide_false, Bool.false_eq_true, if_false]; exact ih x
theorem zipC_map {α β : Type} (f : α → T) (g : β → T) : ∀ (xs : List α) (ys : List β), zipT [xs.map f, ys.map g] = (xs.zip ys).map fun p => .tup [f p.1, g p.2]
  | [], ys => by simp [zipT, zipT.zipC]
  | x :: xs, [] => by simp [zipT, zipT.zipC]
  | x :: xs, y :: ys => by
    have := zipC_map f g xs ys
    simp only [zipT, zipT.zipC, List.map_cons, List.zip_cons_cons] at this ⊢
    rw [this]
/-! ### pairs and triples of numbers -/
def e2 (p : Int × Int) : T := .tup [.int p.1, .int p.2]
theorem data_e2 (p : Int × Int) : data (e2 p) = true := by simp [data, e2, flat, flats, depth, depths]
theorem alike_e2 (a b : Int × Int) : alikeT (e2 a) (e2 b) = true := by simp [e2, alikeT, alikeTs]
/-- what is sorted: items of a like kind, not empty tuples -/
theorem sort_tups {α : Type} (f : α → T) (hd : ∀ a, data (f a) = true) (ha : ∀ a b, alikeT (f a) (f b) = true) (h1 : ∀ a, isTup1 (f a) = true) (xs : List α) :
    biT .sorted (.lst (xs.map f)) = some (.lst ((xs.mergeSort fun a b => leT (f a) (f b)).map f)) := by
  have h : (xs.map f).mergeSort leT = (xs.mergeSort fun a b => leT (f a) (f b)).map f := by
    rw [List.map_mergeSort]
    intro a _ b _
    rfl
  show (sortT (xs.map f)).map T.lst = _
  have : sortT (xs.map f) = some ((xs.map f).mergeSort leT) := by
    match xs with
    | [] => simp [sortT]
    | [x] => simp [sortT]
    | x :: y :: r =>
      have hall : allAlike ((x :: y :: r).map f) = true := by
        simp only [allAlike, List.all_map, List.all_eq_true, Function.comp]
        intro a _
        rw [Bool.and_eq_true]
        exact ⟨hd a, by simp [ha]⟩
      have hb : ((x :: y :: r).map f).all isTup1 = true := by simp [List.all_eq_true, h1]
      show (if allAlike ((x :: y :: r).map f) && (((x :: y :: r).map f).all isTup1 || ((x :: y :: r).map f).all isInt) then _ else _) = _
      rw [hall, hb]; simp
  rw [this, h]; rfl
def sort2 (xs : List (Int × Int)) : List (Int × Int) := xs.mergeSort fun a b => leT (e2 a) (e2 b)
theorem sort_e2 (xs : List (Int × Int)) : biT .sorted (.lst (xs.map e2)) = some (.lst ((sort2 xs).map e2)) := sort_tups e2 data_e2 alike_e2 (fun _ => rfl) xs
theorem mem_sort2 {xs : List (Int × Int)} {p : Int × Int} : p ∈ sort2 xs ↔ p ∈ xs := (List.mergeSort_perm xs _).mem_iff
theorem sort2_len (xs : List (Int × Int)) : (sort2 xs).length = xs.length := List.length_mergeSort xs
/-! ### dicts from numbers to numbers -/
def kv (p : Int × Int) : K × T := (.inl p.1, .int p.2)
theorem pairsOf_e2 (xs : List (Int × Int)) : pairsOf (xs.map e2) = some (xs.map kv) := by
  induction xs with
  | nil => rfl
  | cons x xs ih => simp [pairsOf, e2, keyK, kv] at ih ⊢; simp [ih]
theorem put_mem {κ : Type} [DecidableEq κ] {kvs : List (κ × T)} {k : κ} {v : T} {p : κ × T} (h : p ∈ put kvs k v) : p ∈ kvs ∨ p = (k, v) := by
  unfold put at h
  split at h
  · obtain ⟨q, hq, rfl⟩ := List.mem_map.mp h
    split
    · rename_i e; right; rw [e]
    · left; exact hq
  · rcases List.mem_append.mp h with h | h
    · exact .inl h
    · right; simpa using h
theorem merge_mem {κ : Type} [DecidableEq κ] : ∀ {more kvs : List (κ × T)} {p : κ × T}, p ∈ merge kvs more → p ∈ kvs ∨ p ∈ more
  | [], _, _, h => .inl h
  | q :: r, kvs, p, h => by
    have h' : p ∈ merge (put kvs q.1 q.2) r := h
    rcases merge_mem h' with h | h
    · rcases put_mem h with h | h
      · exact .inl h
      · right; rw [h]; exact List.mem_cons_self
    · exact .inr (List.mem_cons_of_mem _ h)
theorem look_mem {κ : Type} [DecidableEq κ] {kvs : List (κ × T)} {k : κ} {v : T} (h : look kvs k = some v) : (k, v) ∈ kvs := by
  unfold look at h
  obtain ⟨q, hq, rfl⟩ := Option.map_eq_some_iff.mp h
  have h1 := List.find?_some hq
  simp at h1
  have h2 := List.mem_of_find?_eq_some hq
  rw [← h1]
  exact h2
theorem put_keys {κ : Type} [DecidableEq κ] {kvs : List (κ × T)} {k : κ} {v : T} : (put kvs k v).map (·.1) = if k ∈ kvs.map (·.1) then kvs.map (·.1) else kvs.map (·.1) ++ [k] := by
  have e : (kvs.any fun kv => decide (kv.1 = k)) = decide (k ∈ kvs.map (·.1)) := by
    rw [Bool.eq_iff_iff]; simp
  unfold put
  rw [e]
  by_cases h : k ∈ kvs.map (·.1)
  · rw [if_pos (decide_eq_true h), if_pos h, List.map_map]
    apply List.map_congr_left
    intro a _
    simp only [Function.comp]
    split <;> rfl
  · rw [if_neg (by simpa using h), if_neg h, List.map_append]; rfl
theorem put_nodup {κ : Type} [DecidableEq κ] {kvs : List (κ × T)} {k : κ} {v : T} (h : (kvs.map (·.1)).Nodup) : ((put kvs k v).map (·.1)).Nodup := by
  rw [put_keys]
  split
  · exact h
  · rename_i hk
    rw [List.nodup_append]
    exact ⟨h, by simp, fun a ha b hb e => hk (by simp at hb; rw [← hb, ← e]; exact ha)⟩
theorem merge_nodup {κ : Type} [DecidableEq κ] : ∀ {more kvs : List (κ × T)}, (kvs.map (·.1)).Nodup → ((merge kvs more).map (·.1)).Nodup
  | [], _, h => h
  | q :: r, kvs, h => merge_nodup (more := r) (put_nodup (k := q.1) (v := q.2) h)
theorem put_len {κ : Type} [DecidableEq κ] {kvs : List (κ × T)} {k : κ} {v : T} : (put kvs k v).length ≤ kvs.length + 1 := by
  unfold put
  split
  · simp
  · simp
theorem merge_len {κ : Type} [DecidableEq κ] : ∀ (more kvs : List (κ × T)), (merge kvs more).length ≤ kvs.length + more.length
  | [], kvs => Nat.le_refl _
  | q :: r, kvs => by
    have h1 := merge_len r (put kvs q.1 q.2)
    have h2 := put_len (kvs := kvs) (k := q.1) (v := q.2)
    show (merge (put kvs q.1 q.2) r).length ≤ _
    simp only [List.length_cons]; omega
theorem dputs_e2 : ∀ (xs : List (Int × Int)) (kvs : List (K × T)), kvs.length + xs.length ≤ 100000 → dputs (.dK kvs) (xs.map e2) = some (.dK (merge kvs (xs.map kv)))
  | [], kvs, _ => rfl
  | x :: xs, kvs, h => by
    simp only [List.length_cons] at h
    have h1 := put_len (kvs := kvs) (k := (.inl x.1 : K)) (v := .int x.2)
    have ih := dputs_e2 xs (put kvs (.inl x.1) (.int x.2)) (by omega)
    simp only [List.map_cons, e2, dputs, dput, keyK, Option.map_some]
    rw [if_pos (show kvs.length < line by unfold line; omega)]
    exact ih
theorem in_dK (i : Int) (L : List (K × T)) : cmpT .inn (.int i) (.dK L) = some (look L (.inl i)).isSome := by cases L <;> rfl
theorem ix_dK {i : Int} {L : List (K × T)} {v : T} (h : look L (.inl i) = some v) : idxT (.dK L) (.int i) = some v := by
  show (dlook (.dK L) (.int i)).bind id = _
  show (some (look L (.inl i))).bind id = _
  rw [h]; rfl
theorem ix_nat {xs : List T} {b : Nat} {x : T} (h : xs[b]? = some x) : idxT (.tup xs) (.int b) = some x := by
  have hb := (List.getElem?_eq_some_iff.mp h).1
  show (ixN xs.length (b : Int)).bind (fun j => xs[j]?) = _
  unfold ixN
  rw [if_pos (by omega), if_pos (by omega)]
  simpa using h
theorem ix_natL {xs : List T} {b : Nat} {x : T} (h : xs[b]? = some x) : idxT (.lst xs) (.int b) = some x := by
  have hb := (List.getElem?_eq_some_iff.mp h).1
  show (ixN xs.length (b : Int)).bind (fun j => xs[j]?) = _
  unfold ixN
  rw [if_pos (by omega), if_pos (by omega)]
  simpa using h
/-- numbered items -/
def enL {α : Type} : Nat → List α → List (Nat × α)
  | _, [] => []
  | k, x :: xs => (k, x) :: enL (k + 1) xs
theorem numT_map {α : Type} (f : α → T) : ∀ (xs : List α) (k : Nat), numT k (xs.map f) = (enL k xs).map fun p => .tup [.int p.1, f p.2]
  | [], _ => rfl
  | x :: xs, k => by simp only [List.map_cons, numT, enL, numT_map f xs]
theorem enL_get {α : Type} : ∀ (xs : List α) (k b : Nat), (enL k xs)[b]? = (xs[b]?).map fun x => (k + b, x)
  | [], k, b => by simp [enL]
  | x :: xs, k, 0 => by simp [enL]
  | x :: xs, k, b + 1 => by simp only [enL, List.getElem?_cons_succ, enL_get xs]; congr 1; funext x; congr 1; omega
theorem enL_len {α : Type} : ∀ (xs : List α) (k : Nat), (enL k xs).length = xs.length
  | [], _ => rfl
  | x :: xs, k => by simp [enL, enL_len xs]
theorem rng1 {Φ : String → List T → Src → Option (T × Src)} {env : List Slot} {s s1 : Src} {m : Bool} {e : E} {n : Nat} (h : evE Φ e true env s = some (.int n, s1)) (hn : n ≤ 1000000) : (evE Φ (.range [e]) m env s).bind seqS = some ((iota n).map T.int, s1) := by
  have h1 : evE Φ (.range [e]) m env s = some (.rng 0 n, s1) := by
    simp only [evE, evTs, h, rangeT]
    rw [if_pos (by omega)]; rfl
  refine sq_of h1 ?_
  simp only [seqOf]
  rw [if_pos (by simp [rngB]; omega)]
  simp [rgInts, iota, Function.comp_def]
theorem rng2 {Φ : String → List T → Src → Option (T × Src)} {env : List Slot} {s s1 s2 : Src} {m : Bool} {e f : E} {i j : Int} (h : evE Φ e true env s = some (.int i, s1)) (h2 : evE Φ f true env s1 = some (.int j, s2)) (hi : 0 ≤ i ∧ i ≤ 1000000) (hj : 0 ≤ j ∧ j ≤ 1000000) :
    (evE Φ (.range [e, f]) m env s).bind seqS = some (((iota (j - i).toNat).map fun k => T.int (i + k)), s2) := by
  have h1 : evE Φ (.range [e, f]) m env s = some (.rng i j, s2) := by
    simp only [evE, evTs, h, h2, rangeT]
    rw [if_pos (by omega)]; rfl
  refine sq_of h1 ?_
  simp only [seqOf]
  rw [if_pos (by simp [rngB]; omega)]
  simp [rgInts, iota, Function.comp_def]
theorem mem_iota {n : Nat} {i : Int} : i ∈ iota n ↔ 0 ≤ i ∧ i < n := by
  simp only [iota, List.mem_map, List.mem_range]
  constructor
  · rintro ⟨k, hk, rfl⟩; omega
  · rintro ⟨h1, h2⟩; exact ⟨i.toNat, by omega, by omega⟩
theorem iota_len (n : Nat) : (iota n).length = n := by simp [iota]
theorem iota_succ (n : Nat) : iota (n + 1) = iota n ++ [(n : Int)] := by simp [iota, List.range_succ]
theorem iota_get {n b : Nat} {x : T} (h : ((iota n).map T.int)[b]? = some x) : b < n ∧ x = .int (b : Int) := by
  have hb : b < n := by
    have := (List.getElem?_eq_some_iff.mp h).1
    simpa [iota] using this
  refine ⟨hb, ?_⟩
  simp [iota, hb] at h
  exact h.symm
/-! ### lots of numbers in order -/
theorem alike_eL : ∀ (xs ys : List Int), alikeTs (eL xs) (eL ys) = true
  | [], _ => by simp [eL, alikeTs]
  | _ :: _, [] => by simp [eL, alikeTs]
  | x :: xs, y :: ys => by
    have := alike_eL xs ys
    simp only [eL, List.map_cons, alikeTs, alikeT, Bool.true_and] at this ⊢
    exact this
def leR (a b : List Int) : Bool := leT (eR a) (eR b)
theorem sort_rows (xs : List (List Int)) (h1 : ∀ a ∈ xs, a ≠ []) : biT .sorted (.lst (xs.map eR)) = some (.lst ((xs.mergeSort leR).map eR)) := by
  have h : (xs.map eR).mergeSort leT = (xs.mergeSort leR).map eR := by
    rw [List.map_mergeSort]
    intro a _ b _
    rfl
  show (sortT (xs.map eR)).map T.lst = _
  have : sortT (xs.map eR) = some ((xs.map eR).mergeSort leT) := by
    match xs with
    | [] => simp [sortT]
    | [x] => simp [sortT]
    | x :: y :: r =>
      have hall : allAlike ((x :: y :: r).map eR) = true := by
        simp only [allAlike, List.all_map, List.all_eq_true, Function.comp]
        intro a _
        rw [Bool.and_eq_true]
        refine ⟨data_eR a, ?_⟩
        simp only [List.all_eq_true]
        intro b _
        show alikeT (.tup (eL a)) (.tup (eL b)) = true
        rw [alikeT]
        exact alike_eL a b
      have hb : ((x :: y :: r).map eR).all isTup1 = true := by
        rw [List.all_map, List.all_eq_true]
        intro a ha
        have := h1 a ha
        cases a with
        | nil => exact absurd rfl this
        | cons z zs => rfl
      show (if allAlike ((x :: y :: r).map eR) && (((x :: y :: r).map eR).all isTup1 || ((x :: y :: r).map eR).all isInt) then _ else _) = _
      rw [hall, hb]; simp
  rw [this, h]; rfl
theorem mx_append (x : Int) (xs ys : List Int) : mx x (xs ++ ys) = mx (mx x xs) ys := by simp [mx, List.foldl_append]
theorem mx_zero {x : Int} {xs : List Int} (h : 0 ≤ x) : mx x xs = mx 0 (x :: xs) := by
  simp only [mx, List.foldl_cons]
  congr 1
  split <;> omega
theorem compL2_pure {α : Type} {inner : List Slot → Src → Option (List T × Src)} {tg : Tg} {env : List Slot} {s : Src} {enc : α → T} (f : α → List T) : ∀ (ys : List α),
    (∀ y ∈ ys, ∃ env1, asgTg tg (enc y) env = some env1 ∧ inner env1 s = some (f y, s)) → compL2 inner tg env (ys.map enc) s = some (ys.flatMap f, s)
  | [], _ => rfl
  | y :: ys, h => by
    obtain ⟨env1, h1, h2⟩ := h y List.mem_cons_self
    have ih := compL2_pure f ys fun z hz => h z (List.mem_cons_of_mem _ hz)
    simp only [List.map_cons, compL2, h1, h2, ih, List.flatMap_cons]
theorem ev_comp2 {Φ : String → List T → Src → Option (T × Src)} {elt it it2 : E} {tg tg2 : Tg} {own : List Nat} {m : Bool} {env : List Slot} {s s1 : Src} {α : Type} {enc : α → T} (ys : List α) (f : α → List T) (h1 : (evE Φ it true env s).bind seqS = some (ys.map enc, s1)) (h2 : ownFree env own = true)
    (h3 : ∀ y ∈ ys, ∃ env1 zs, asgTg tg (enc y) (wipe env own) = some env1 ∧ (evE Φ it2 true env1 s1).bind seqS = some (zs, s1) ∧ compL (evE Φ elt false) (fun _ s => some (.bl true, s)) tg2 (wipe env1 (tgV tg2)) zs s1 = some (f y, s1)) (h4 : (ys.flatMap f).length ≤ line) :
    evE Φ (.comp2 elt tg it tg2 it2 own) m env s = some (.lst (ys.flatMap f), s1) := by
  have := compL2_pure (tg := tg) (env := wipe env own) (s := s1) (enc := enc) (inner := fun env1 s2 => match (evE Φ it2 true env1 s2).bind seqS with
        | none => none
        | some (ys, s3) => compL (evE Φ elt false) (fun _ s => some (.bl true, s)) tg2 (wipe env1 (tgV tg2)) ys s3) f ys fun y hy => by
    obtain ⟨env1, zs, e1, e2, e3⟩ := h3 y hy
    exact ⟨env1, e1, by simp only [e2, e3]⟩
  simp only [evE, h1, h2, if_true]
  refine (congrArg fits this).trans ?_
  simp only [fits, h4, if_true]
theorem ix_eL {xs : List Int} {i : Int} (h0 : 0 ≤ i) (h1 : i < xs.length) : idxT (.lst (eL xs)) (.int i) = some (.int (xs.getD i.toNat 0)) := by
  have e : i = (i.toNat : Int) := by omega
  rw [e]
  refine ix_natL ?_
  simp only [Int.toNat_natCast]
  rw [eL, List.getElem?_map, List.getD_eq_getElem?_getD, List.getElem?_eq_getElem (show i.toNat < xs.length by omega)]
  rfl
theorem ix_eR {xs : List Int} {i : Int} (h0 : 0 ≤ i) (h1 : i < xs.length) : idxT (eR xs) (.int i) = some (.int (xs.getD i.toNat 0)) := by
  have e : i = (i.toNat : Int) := by omega
  rw [e]
  refine ix_nat ?_
  simp only [Int.toNat_natCast]
  rw [eL, List.getElem?_map, List.getD_eq_getElem?_getD, List.getElem?_eq_getElem (show i.toNat < xs.length by omega)]
  rfl
theorem set_eL {env : List Slot} {j : Nat} {xs : List Int} {i v : Int} (he : env[j]? = some (.ow (.lst (eL xs)))) (h0 : 0 ≤ i) (h1 : i < xs.length) : setC j (.int i) (.int v) env = some (env.set j (.ow (.lst (eL (xs.set i.toNat v))))) := by
  unfold setC
  rw [he]
  show (ixN (eL xs).length i).map _ = _
  have : ixN (eL xs).length i = some i.toNat := by
    unfold ixN
    rw [if_pos h0, if_pos (by simp [eL]; exact h1)]
  rw [this]
  simp [eL, List.map_set]
def e3 (p : Int × Int × Int) : T := .tup [.int p.1, .int p.2.1, .int p.2.2]
theorem data_e3 (p : Int × Int × Int) : data (e3 p) = true := by simp [data, e3, flat, flats, depth, depths]
theorem alike_e3 (a b : Int × Int × Int) : alikeT (e3 a) (e3 b) = true := by simp [e3, alikeT, alikeTs]
def le3 (a b : Int × Int × Int) : Bool := leT (e3 a) (e3 b)
def sort3 (xs : List (Int × Int × Int)) : List (Int × Int × Int) := xs.mergeSort le3
theorem sort_e3 (xs : List (Int × Int × Int)) : biT .sorted (.lst (xs.map e3)) = some (.lst ((sort3 xs).map e3)) := sort_tups e3 data_e3 alike_e3 (fun _ => rfl) xs
theorem le3_iff (a b : Int × Int × Int) : le3 a b = true ↔ a.1 < b.1 ∨ (a.1 = b.1 ∧ (a.2.1 < b.2.1 ∨ (a.2.1 = b.2.1 ∧ a.2.2 ≤ b.2.2))) := by
  unfold le3 leT e3
  simp only [ltB, ltBs, eqT, decide_eq_true_eq, Bool.not_eq_true', ]
  by_cases h1 : b.1 = a.1
  · by_cases h2 : b.2.1 = a.2.1
    · by_cases h3 : b.2.2 = a.2.2 <;> simp [h1, h2, h3] <;> omega
    · simp [h1, h2]; omega
  · simp [h1]; omega
theorem sort3_filter {xs ys : List (Int × Int × Int)} {p : Int × Int × Int → Bool} (h : xs.filter p = ys) (hy : ys.Pairwise fun a b => le3 a b = true) : (sort3 xs).filter p = ys := by
  refine List.Perm.eq_of_pairwise (le := fun a b => le3 a b = true) (fun a b _ _ h1 h2 => ?_) ((List.pairwise_mergeSort (fun a b c h1 h2 => ?_) (fun a b => ?_) xs).filter p) hy ?_
  · rw [le3_iff] at h1 h2
    obtain ⟨a1, a2, a3⟩ := a
    obtain ⟨b1, b2, b3⟩ := b
    simp only at h1 h2
    have e1 : a1 = b1 := by omega
    have e2 : a2 = b2 := by omega
    have e3 : a3 = b3 := by omega
    subst e1 e2 e3; rfl
  · rw [le3_iff] at h1 h2 ⊢
    omega
  · rw [Bool.or_eq_true, le3_iff, le3_iff]
    omega
  · rw [← h]
    exact (List.mergeSort_perm xs le3).filter p
theorem ev_lrange {Φ : String → List T → Src → Option (T × Src)} {env : List Slot} {s s1 : Src} {m : Bool} {e : E} {n : Nat} (h : evE Φ e true env s = some (.int n, s1)) (hn : n ≤ 1000000) : evE Φ (.lrange [e]) m env s = some (.lst ((iota n).map T.int), s1) := by
  have h1 : rangeT [.int (n : Int)] = some (.rng 0 n) := by simp only [rangeT]; rw [if_pos (by omega)]
  simp only [evE, evTs, h, h1]
  simp [rgInts, iota, Function.comp_def]
theorem pick_rng {m : Int} {st : St} (h : 0 < m) : 0 ≤ (pickSt m st).1 ∧ (pickSt m st).1 < m := by
  unfold pickSt
  split
  · simp; exact h
  · dsimp only
    split
    · exact ⟨Int.emod_nonneg _ (by omega), Int.emod_lt_of_pos _ h⟩
    · exact ⟨Int.emod_nonneg _ (by omega), Int.emod_lt_of_pos _ h⟩
theorem erase_perm {α : Type} : ∀ (xs : List α) (k : Nat) (h : k < xs.length), (xs[k] :: xs.eraseIdx k).Perm xs
  | [], k, h => by simp at h
  | x :: xs, 0, h => by simp
  | x :: xs, k + 1, h => by
    have ih := erase_perm xs k (by simpa using h)
    simp only [List.getElem_cons_succ, List.eraseIdx_cons_succ]
    exact (List.Perm.swap _ _ _).trans (ih.cons x)
theorem drawOrder_perm : ∀ (n : Nat) (xs : List T) (st : St), xs.length = n → (drawOrder n xs st).1.Perm xs
  | 0, xs, st, h => by
    rw [List.length_eq_zero_iff.mp h]
    exact .refl _
  | n + 1, xs, st, h => by
    have hp := pick_rng (m := (xs.length : Int)) (st := st) (by omega)
    have hk : (pickSt xs.length st).1.toNat < xs.length := by omega
    have ih := drawOrder_perm n (xs.eraseIdx (pickSt xs.length st).1.toNat) (pickSt xs.length st).2 (by rw [List.length_eraseIdx, if_pos hk]; omega)
    simp only [drawOrder]
    have hg : xs.getD (pickSt xs.length st).1.toNat .non = xs[(pickSt xs.length st).1.toNat] := by rw [List.getD_eq_getElem?_getD, List.getElem?_eq_getElem hk]; rfl
    rw [hg]
    exact (List.Perm.cons _ ih).trans (erase_perm _ _ hk)
def toI : T → Int
  | .int i => i
  | _ => 0
theorem perm_ints {L : List T} {xs : List Int} (h : L.Perm (xs.map T.int)) : ∃ ys : List Int, L = ys.map T.int ∧ ys.Perm xs := by
  refine ⟨L.map toI, ?_, ?_⟩
  · rw [List.map_map]
    refine (List.map_id L).symm.trans (List.map_congr_left fun x hx => ?_)
    obtain ⟨i, _, rfl⟩ := List.mem_map.mp (h.mem_iff.mp hx)
    rfl
  · have := h.map toI
    rw [List.map_map] at this
    rw [show xs.map (toI ∘ T.int) = xs from (List.map_congr_left fun x _ => rfl).trans (List.map_id xs)] at this
    exact this
theorem intsOf_eL (xs : List Int) : intsOf (eL xs) = some xs := by
  induction xs with
  | nil => rfl
  | cons x xs ih => simp [eL, intsOf] at ih ⊢; simp [ih]
end Gh
set_option linter.all false
set_option maxRecDepth 10000
namespace Gh
section
variable {Φ : String → List T → Src → Option (T × Src)} {c : Cr} {s : Src}
structure Cr.Ok (c : Cr) : Prop where
  n1 : 1 ≤ c.n
  n4 : c.n ≤ 4
  X : ∀ q ∈ c.X, 0 ≤ q.1 ∧ q.1 < q.2.1 ∧ q.2.1 < c.n ∧ 0 ≤ q.2.2.1 ∧ q.2.2.1 ≤ 2 ∧ 0 ≤ q.2.2.2 ∧ q.2.2.2 ≤ 2
  xl : c.X.length ≤ 1000
  l1 : 1 ≤ c.len
  l2 : c.len ≤ 1000
theorem fnd_some {X : List Four} {i j : Int} : (fnd X i j).isSome = X.any fun q => decide (q.1 = i ∧ q.2.1 = j ∨ q.2.1 = i ∧ q.1 = j) := by
  induction X with
  | nil => rfl
  | cons q r ih =>
    simp only [fnd, List.any_cons]
    split
    · rename_i h; simp [h]
    · rename_i h
      split
      · rename_i h2; simp [h2]
      · rename_i h2; simp [h, h2, ih]
theorem fnd_mem {X : List Four} {i j v : Int} (h : fnd X i j = some v) : ∃ q ∈ X, (q.1 = i ∧ q.2.1 = j ∧ v = q.2.2.1) ∨ (q.2.1 = i ∧ q.1 = j ∧ v = q.2.2.2) := by
  induction X with
  | nil => cases h
  | cons q r ih =>
    simp only [fnd] at h
    split at h
    · rename_i h1; cases h; exact ⟨q, List.mem_cons_self, .inl ⟨h1.1, h1.2, rfl⟩⟩
    · split at h
      · rename_i h1; cases h; exact ⟨q, List.mem_cons_self, .inr ⟨h1.1, h1.2, rfl⟩⟩
      · obtain ⟨p, hp, hh⟩ := ih h; exact ⟨p, List.mem_cons_of_mem _ hp, hh⟩
theorem crs_iff {i j : Int} : crs c i j = true ↔ ∃ q ∈ c.X, (q.1 = i ∧ q.2.1 = j) ∨ (q.2.1 = i ∧ q.1 = j) := by
  unfold crs
  rw [fnd_some, List.any_eq_true]
  simp
theorem crs_comm {i j : Int} : crs c i j = crs c j i := by
  rw [Bool.eq_iff_iff, crs_iff, crs_iff]
  constructor <;> rintro ⟨q, h, h1 | h1⟩ <;> exact ⟨q, h, by omega⟩
theorem Cr.Ok.self (k : c.Ok) (i : Int) : crs c i i = false := by
  cases h : crs c i i with
  | false => rfl
  | true =>
    obtain ⟨q, hq, h1⟩ := crs_iff.mp h
    have := k.X q hq
    omega
theorem Cr.Ok.fnd0 (k : c.Ok) {i j v : Int} (h : fnd c.X i j = some v) : 0 ≤ v ∧ v ≤ 2 := by
  obtain ⟨q, hq, h1⟩ := fnd_mem h
  have := k.X q hq
  omega
theorem Cr.Ok.clr0 (k : c.Ok) (i j : Int) : 0 ≤ clr c i j := by
  unfold clr
  cases h : fnd c.X i j with
  | none => exact Int.le_refl _
  | some v => exact (k.fnd0 h).1
theorem Cr.Ok.crs_n (k : c.Ok) {i j : Int} (h : crs c i j = true) : 0 ≤ i ∧ i < c.n ∧ 0 ≤ j ∧ j < c.n := by
  obtain ⟨q, hq, h1⟩ := crs_iff.mp h
  have := k.X q hq
  omega
theorem crs_of {i j v : Int} (h : fnd c.X i j = some v) : crs c i j = true := by unfold crs; rw [h]; rfl

theorem do_cross_ev (i j : Int) (k : c.Ok) : evFn Φ d_do_cross [c.e, .int i, .int j] s = some (.bl (crs c i j), s) := by
  have hl := k.xl
  refine fn_rt rfl (x_rt (x_ret (ev_bi (ev_compM (enc := e4) (s1 := s) c.X (fun q => .bl (inT (.tup [.int q.1, .int q.2.1]) [.tup [.int i, .int j], .tup [.int j, .int i]])) rfl rfl (by omega) fun q hq => ⟨_, rfl, rfl⟩) ?_)))
  rw [any_map]
  congr 2
  unfold crs
  rw [fnd_some]
  congr 1; funext q
  simp only [inT, List.any_cons, List.any_nil, eqT, eqTs, Bool.and_true, Bool.or_false]
  rw [Bool.eq_iff_iff]
  simp
  constructor <;> rintro (⟨h1, h2⟩ | ⟨h1, h2⟩) <;> simp [h1, h2]
theorem whole_ev (i : Int) : evFn Φ d_is_whole [.int i] s = some (.bl true, s) := rfl
theorem integer_ev (i : Int) : evFn Φ d_is_integer [.int i] s = some (.bl true, s) := rfl
theorem clearance_ev (i j : Int) : evFn Φ d_clearance [c.e, .int i, .int j] s = some (.int (clr c i j), s) := by
  have h : ∀ (X : List Four) (v3 v4 v5 v6 : Slot), ∃ env', forL (evSs Φ [(.ite (.cmp .eq (.tup [(.var 3), (.var 4)]) (.tup [(.var 1), (.var 2)])) [(.ret (.var 5))] []), (.ite (.cmp .eq (.tup [(.var 4), (.var 3)]) (.tup [(.var 1), (.var 2)])) [(.ret (.var 6))] [])]) (.tup [(.var 3), (.var 4), (.var 5), (.var 6)]) (X.map e4) [.sh c.e, .sh (.int i), .sh (.int j), v3, v4, v5, v6] s =
      match fnd X i j with
      | some v => some (.rt (.int v), env', s)
      | none => some (.nx, env', s) := by
    intro X
    induction X with
    | nil => intro v3 v4 v5 v6; exact ⟨_, rfl⟩
    | cons q r ih =>
      intro v3 v4 v5 v6
      have e1 : ∀ a b d f : Int, eqT (.tup [.int a, .int b]) (.tup [.int d, .int f]) = decide (a = d ∧ b = f) := fun a b d f => by simp [eqT, eqTs]
      simp only [List.map_cons]
      by_cases h1 : q.1 = i ∧ q.2.1 = j
      · refine ⟨[.sh c.e, .sh (.int i), .sh (.int j), .sh (.int q.1), .sh (.int q.2.1), .sh (.int q.2.2.1), .sh (.int q.2.2.2)], ?_⟩
        rw [fnd, if_pos h1]
        simp only [forL]
        rw [show asgTg (.tup [(.var 3), (.var 4), (.var 5), (.var 6)]) (e4 q) [.sh c.e, .sh (.int i), .sh (.int j), v3, v4, v5, v6] = some [.sh c.e, .sh (.int i), .sh (.int j), .sh (.int q.1), .sh (.int q.2.1), .sh (.int q.2.2.1), .sh (.int q.2.2.2)] from rfl]
        simp only
        rw [x_rt (x_tz (z := eqT (.tup [.int q.1, .int q.2.1]) (.tup [.int i, .int j])) rfl (by rw [e1]; exact decide_eq_true h1) (x_rt (x_ret rfl)))]
      · by_cases h2 : q.2.1 = i ∧ q.1 = j
        · refine ⟨[.sh c.e, .sh (.int i), .sh (.int j), .sh (.int q.1), .sh (.int q.2.1), .sh (.int q.2.2.1), .sh (.int q.2.2.2)], ?_⟩
          rw [fnd, if_neg h1, if_pos h2]
          simp only [forL]
          rw [show asgTg (.tup [(.var 3), (.var 4), (.var 5), (.var 6)]) (e4 q) [.sh c.e, .sh (.int i), .sh (.int j), v3, v4, v5, v6] = some [.sh c.e, .sh (.int i), .sh (.int j), .sh (.int q.1), .sh (.int q.2.1), .sh (.int q.2.2.1), .sh (.int q.2.2.2)] from rfl]
          simp only
          rw [x_nx (x_fz (z := eqT (.tup [.int q.1, .int q.2.1]) (.tup [.int i, .int j])) rfl (by rw [e1]; exact decide_eq_false h1) rfl) (x_rt (x_tz (z := eqT (.tup [.int q.2.1, .int q.1]) (.tup [.int i, .int j])) rfl (by rw [e1]; exact decide_eq_true h2) (x_rt (x_ret rfl))))]
        · obtain ⟨env', hh⟩ := ih (.sh (.int q.1)) (.sh (.int q.2.1)) (.sh (.int q.2.2.1)) (.sh (.int q.2.2.2))
          refine ⟨env', ?_⟩
          rw [fnd, if_neg h1, if_neg h2]
          simp only [forL]
          rw [show asgTg (.tup [(.var 3), (.var 4), (.var 5), (.var 6)]) (e4 q) [.sh c.e, .sh (.int i), .sh (.int j), v3, v4, v5, v6] = some [.sh c.e, .sh (.int i), .sh (.int j), .sh (.int q.1), .sh (.int q.2.1), .sh (.int q.2.2.1), .sh (.int q.2.2.2)] from rfl]
          simp only
          rw [x_nx (x_fz (z := eqT (.tup [.int q.1, .int q.2.1]) (.tup [.int i, .int j])) rfl (by rw [e1]; exact decide_eq_false h1) rfl) (x_one (x_fz (z := eqT (.tup [.int q.2.1, .int q.1]) (.tup [.int i, .int j])) rfl (by rw [e1]; exact decide_eq_false h2) rfl))]
          exact hh
  obtain ⟨env', hh⟩ := h c.X .un .un .un .un
  unfold clr
  cases hf : fnd c.X i j with
  | some v =>
    rw [hf] at hh
    exact fn_rt rfl (x_rt (x_for (xs := c.X.map e4) (s1 := s) rfl hh))
  | none =>
    rw [hf] at hh
    exact fn_rt rfl (x_nx (x_for (xs := c.X.map e4) (s1 := s) rfl hh) (x_rt (x_ret rfl)))
/-- what the law is told of a clearance -/
def clrT (c : Cr) (i j : Int) : T := match fnd c.X i j with
  | some v => .int v
  | none => .non
theorem lclearance_ev (i j : Int) : evFn Φ d__law_clearance [c.e, .int i, .int j] s = some (clrT c i j, s) := by
  have h : ∀ (X : List Four) (v3 v4 v5 v6 : Slot), ∃ env', forL (evSs Φ [(.ite (.cmp .eq (.tup [(.var 3), (.var 4)]) (.tup [(.var 1), (.var 2)])) [(.ret (.var 5))] []), (.ite (.cmp .eq (.tup [(.var 3), (.var 4)]) (.tup [(.var 2), (.var 1)])) [(.ret (.var 6))] [])]) (.tup [(.var 3), (.var 4), (.var 5), (.var 6)]) (X.map e4) [.sh c.e, .sh (.int i), .sh (.int j), v3, v4, v5, v6] s =
      match fnd X i j with
      | some v => some (.rt (.int v), env', s)
      | none => some (.nx, env', s) := by
    intro X
    induction X with
    | nil => intro v3 v4 v5 v6; exact ⟨_, rfl⟩
    | cons q r ih =>
      intro v3 v4 v5 v6
      have e1 : ∀ a b d f : Int, eqT (.tup [.int a, .int b]) (.tup [.int d, .int f]) = decide (a = d ∧ b = f) := fun a b d f => by simp [eqT, eqTs]
      have ea : asgTg (.tup [(.var 3), (.var 4), (.var 5), (.var 6)]) (e4 q) [.sh c.e, .sh (.int i), .sh (.int j), v3, v4, v5, v6] = some [.sh c.e, .sh (.int i), .sh (.int j), .sh (.int q.1), .sh (.int q.2.1), .sh (.int q.2.2.1), .sh (.int q.2.2.2)] := rfl
      simp only [List.map_cons]
      by_cases h1 : q.1 = i ∧ q.2.1 = j
      · refine ⟨[.sh c.e, .sh (.int i), .sh (.int j), .sh (.int q.1), .sh (.int q.2.1), .sh (.int q.2.2.1), .sh (.int q.2.2.2)], ?_⟩
        rw [fnd, if_pos h1]
        simp only [forL, ea]
        rw [x_rt (x_tz (z := eqT (.tup [.int q.1, .int q.2.1]) (.tup [.int i, .int j])) rfl (by rw [e1]; exact decide_eq_true h1) (x_rt (x_ret rfl)))]
      · by_cases h2 : q.2.1 = i ∧ q.1 = j
        · refine ⟨[.sh c.e, .sh (.int i), .sh (.int j), .sh (.int q.1), .sh (.int q.2.1), .sh (.int q.2.2.1), .sh (.int q.2.2.2)], ?_⟩
          rw [fnd, if_neg h1, if_pos h2]
          simp only [forL, ea]
          rw [x_nx (x_fz (z := eqT (.tup [.int q.1, .int q.2.1]) (.tup [.int i, .int j])) rfl (by rw [e1]; exact decide_eq_false h1) rfl) (x_rt (x_tz (z := eqT (.tup [.int q.1, .int q.2.1]) (.tup [.int j, .int i])) rfl (by rw [e1]; exact decide_eq_true ⟨h2.2, h2.1⟩) (x_rt (x_ret rfl))))]
        · obtain ⟨env', hh⟩ := ih (.sh (.int q.1)) (.sh (.int q.2.1)) (.sh (.int q.2.2.1)) (.sh (.int q.2.2.2))
          refine ⟨env', ?_⟩
          rw [fnd, if_neg h1, if_neg h2]
          simp only [forL, ea]
          rw [x_nx (x_fz (z := eqT (.tup [.int q.1, .int q.2.1]) (.tup [.int i, .int j])) rfl (by rw [e1]; exact decide_eq_false h1) rfl) (x_one (x_fz (z := eqT (.tup [.int q.1, .int q.2.1]) (.tup [.int j, .int i])) rfl (by rw [e1]; exact decide_eq_false fun z => h2 ⟨z.2, z.1⟩) rfl))]
          exact hh
  obtain ⟨env', hh⟩ := h c.X .un .un .un .un
  unfold clrT
  cases hf : fnd c.X i j with
  | some v =>
    rw [hf] at hh
    exact fn_rt rfl (x_rt (x_for (xs := c.X.map e4) (s1 := s) rfl hh))
  | none =>
    rw [hf] at hh
    exact fn_rt rfl (x_nx (x_for (xs := c.X.map e4) (s1 := s) rfl hh) (x_rt (x_ret rfl)))
def foes (c : Cr) (i : Int) : List Int := (((c.X.filter fun q => inT (.int i) [.int q.1, .int q.2.1])).map fun q => if q.1 = i then q.2.1 else q.1).mergeSort leI
theorem foes_ev (i : Int) (k : c.Ok) : evFn Φ d_foes_of [c.e, .int i] s = some (eR (foes c i), s) := by
  have hl := k.xl
  refine fn_rt rfl (x_rt (x_ret (ev_bi (ev_bi (x := .lst (eL ((c.X.filter fun q => inT (.int i) [.int q.1, .int q.2.1]).map fun q => if q.1 = i then q.2.1 else q.1))) (s1 := s) ?_ (sort_ints _)) rfl)))
  have := ev_compP (Φ := Φ) (enc := e4) (m := true) (s := s) (s1 := s) (env := [.sh c.e, .sh (.int i), .un, .un, .un]) (elt := .ite (.cmp .eq (.var 2) (.var 1)) (.var 3) (.var 2)) (tg := .tup [(.var 2), (.var 3), (.var 4), (.var 4)]) (it := .idx (.var 0) (.cI 1)) (c := .cmp .inn (.var 1) (.tup [(.var 2), (.var 3)])) (own := [2, 3, 4]) c.X (fun q => inT (.int i) [.int q.1, .int q.2.1]) (fun q => .int (if q.1 = i then q.2.1 else q.1)) rfl rfl (by omega) fun q hq => by
    refine ⟨_, rfl, rfl, fun _ => ?_⟩
    refine ev_iteB (z := decide (q.1 = i)) (s1 := s) rfl (fun h => ?_) (fun h => ?_)
    · rw [if_pos (of_decide_eq_true h)]; rfl
    · rw [if_neg (of_decide_eq_false h)]; rfl
  unfold eL
  rw [List.map_map]
  exact this
theorem mem_foes (k : c.Ok) {i j : Int} : j ∈ foes c i ↔ crs c i j = true := by
  unfold foes
  rw [sortI_mem, crs_iff, List.mem_map]
  constructor
  · rintro ⟨q, h1, h2⟩
    rw [List.mem_filter] at h1
    have hq := k.X q h1.1
    refine ⟨q, h1.1, ?_⟩
    have h3 := h1.2
    simp only [inT, List.any_cons, List.any_nil, eqT, Bool.or_false, Bool.or_eq_true, decide_eq_true_eq] at h3
    split at h2 <;> omega
  · rintro ⟨q, h1, h2⟩
    have hq := k.X q h1
    refine ⟨q, List.mem_filter.mpr ⟨h1, ?_⟩, ?_⟩
    · simp only [inT, List.any_cons, List.any_nil, eqT, Bool.or_false, Bool.or_eq_true, decide_eq_true_eq]; omega
    · split <;> omega
theorem foes_len (k : c.Ok) (i : Int) : (foes c i).length ≤ 1000 := by
  unfold foes
  rw [List.length_mergeSort, List.length_map]
  exact Nat.le_trans (List.length_filter_le _ _) k.xl
def wid (c : Cr) : Int := mx 0 (c.X.map fun q => mx q.2.2.1 [q.2.2.2])
theorem wid_ge (c : Cr) : 0 ≤ wid c ∧ ∀ i j, clr c i j ≤ wid c := by
  refine ⟨(mx_ge 0 _).1, fun i j => ?_⟩
  unfold clr
  cases h : fnd c.X i j with
  | none => exact (mx_ge 0 _).1
  | some v =>
    obtain ⟨q, hq, h1⟩ := fnd_mem h
    have h2 := (mx_ge 0 (c.X.map fun q => mx q.2.2.1 [q.2.2.2])).2 _ (List.mem_map_of_mem hq)
    have h3 := (mx_ge q.2.2.1 [q.2.2.2]).1
    have h4 := (mx_ge q.2.2.1 [q.2.2.2]).2 q.2.2.2 List.mem_cons_self
    show v ≤ wid c
    unfold wid
    omega
theorem wid_le (k : c.Ok) : wid c ≤ 2 := by
  rcases mx_mem 0 (c.X.map fun q => mx q.2.2.1 [q.2.2.2]) with h | h
  · unfold wid; omega
  · obtain ⟨q, hq, h1⟩ := List.mem_map.mp h
    have := k.X q hq
    rcases mx_mem q.2.2.1 [q.2.2.2] with h2 | h2
    · unfold wid; omega
    · simp at h2; unfold wid; omega
theorem wid_ev (k : c.Ok) : evFn Φ d_widest_clearance [c.e] s = some (.int (wid c), s) := by
  have hl := k.xl
  have hs : evEs Φ [(.star (.comp (.bi .max (.sl (.var 1) (.cI 2) .cN)) (.var 1) (.idx (.var 0) (.cI 1)) (.cB true) [1]))] [.sh c.e, .un] s = some (eL (c.X.map fun q => mx q.2.2.1 [q.2.2.2]) ++ [], s) :=
    es_star (x := .lst (c.X.map fun q => .int (mx q.2.2.1 [q.2.2.2]))) (ev_compM (enc := e4) (s1 := s) c.X (fun q => .int (mx q.2.2.1 [q.2.2.2])) rfl rfl (by omega) fun q hq => ⟨_, rfl, ev_bi (f := .max) (x := .tup (eL [q.2.2.1, q.2.2.2])) (s1 := s) rfl (maxT_eL q.2.2.1 [q.2.2.2])⟩) (by show some _ = some _; simp [eL, Function.comp_def]) es_nil
  rw [List.append_nil] at hs
  have hq : evE Φ (.lst [(.cI 0), (.star (.comp (.bi .max (.sl (.var 1) (.cI 2) .cN)) (.var 1) (.idx (.var 0) (.cI 1)) (.cB true) [1]))]) true [.sh c.e, .un] s = some (.lst (eL (0 :: c.X.map fun q => mx q.2.2.1 [q.2.2.2])), s) := ev_lst (es_cons rfl hs) (by simp [eL, line]; omega)
  exact fn_rt rfl (x_rt (x_ret (ev_bi (f := .max) hq (by have := maxT_eL 0 (c.X.map fun q : Four => mx q.2.2.1 [q.2.2.2]); exact this))))
/-- an ascending lot of movements -/
structure Gr (c : Cr) (g : List Int) : Prop where
  asc : g.Pairwise (· < ·)
  mem : ∀ i ∈ g, 0 ≤ i ∧ i < c.n
theorem asc_len {g : List Int} {n : Nat} (h : g.Pairwise (· < ·)) (m : ∀ i ∈ g, 0 ≤ i ∧ i < (n : Int)) : g.length ≤ n := by
  have : ∀ (g : List Int) (lo : Int), g.Pairwise (· < ·) → (∀ i ∈ g, lo ≤ i ∧ i < (n : Int)) → lo ≤ n → (g.length : Int) ≤ n - lo := by
    intro g
    induction g with
    | nil => intro lo _ _ h; simp; omega
    | cons x xs ih =>
      intro lo h1 h2 h3
      rw [List.pairwise_cons] at h1
      have hx := h2 x List.mem_cons_self
      have := ih (x + 1) h1.2 (fun i hi => ⟨by have := h1.1 i hi; omega, (h2 i (List.mem_cons_of_mem _ hi)).2⟩) (by omega)
      simp only [List.length_cons]; omega
  have := this g 0 h m (by omega)
  omega
theorem Gr.len {g : List Int} (k : c.Ok) (h : Gr c g) : g.length ≤ 4 := Nat.le_trans (asc_len h.asc h.mem) k.n4
theorem asc_zip : ∀ {g : List Int}, g.Pairwise (· < ·) → (g.zip (g.drop 1)).all (fun p => decide (p.1 < p.2)) = true
  | [], _ => rfl
  | [x], _ => rfl
  | x :: y :: r, h => by
    rw [List.pairwise_cons] at h
    have := asc_zip h.2
    simp only [List.drop_succ_cons, List.drop_zero, List.zip_cons_cons, List.all_cons, Bool.and_eq_true] at this ⊢
    exact ⟨decide_eq_true (h.1 y List.mem_cons_self), this⟩
theorem len_e : (evE Φ (.bi .len (.idx (.var 0) (.cI 0))) true (.sh c.e :: env1) s) = some (.int c.n, s) := rfl
theorem is_greens_ev (k : c.Ok) (hw : ∀ i s, Φ "is_whole" [.int i] s = some (.bl true, s)) {g : List Int} (h : Gr c g) : evFn Φ d_is_greens [c.e, eR g] s = some (.bl true, s) := by
  have hl := h.len k
  refine fn_rt rfl (x_nx (x_fz (z := false || !(g.all fun _ => true)) (ev_orB (p := false) rfl fun _ => ev_not (ev_bi (x := .lst (g.map fun _ => .bl true)) (s1 := s) (ev_compM (enc := T.int) (s1 := s) g (fun _ => .bl true) rfl rfl (by omega) fun i hi => ⟨_, rfl, ev_call (xs := [.int i]) (s1 := s) rfl (hw i s)⟩) (all_map _ _))) (by simp) rfl) (x_nx (x_fz (z := !(g.all fun i => decide (0 ≤ i) && decide (i < (c.n : Int)))) (ev_not (ev_bi (x := .lst (g.map fun i => .bl (decide (0 ≤ i) && decide (i < (c.n : Int))))) (s1 := s) (ev_compM (enc := T.int) (s1 := s) g _ rfl rfl (by omega) fun i hi => ⟨_, rfl, ev_ch rfl rfl rfl rfl rfl⟩) (all_map _ _))) ?_ rfl) (x_rt (x_ret (ev_bi (x := .lst ((g.zip (g.drop 1)).map fun p => .bl (decide (p.1 < p.2)))) (s1 := s) ?_ ?_)))))
  · simp only [Bool.not_eq_false', List.all_eq_true, Bool.and_eq_true, decide_eq_true_eq]
    exact h.mem
  · refine ev_compM (enc := fun p : Int × Int => .tup [.int p.1, .int p.2]) (s1 := s) (g.zip (g.drop 1)) _ ?_ rfl (by simp; omega) fun p hp => ⟨_, rfl, rfl⟩
    have : cut (eL g) (some 1) none = (g.drop 1).map T.int := by
      unfold cut eL sIx
      simp only [List.length_map, if_neg (show ¬ (1 : Int) < 0 by decide), List.map_drop]
      rw [List.take_of_length_le (by simp)]
      rcases Nat.eq_zero_or_pos g.length with h0 | h0
      · rw [List.length_eq_zero_iff.mp h0]; rfl
      · rw [show min (Int.toNat 1) g.length = 1 by simp; omega]
    have e : evE Φ (.zip [(.var 1), (.sl (.var 1) (.cI 1) .cN)]) true [.sh c.e, .sh (eR g), .un, .un, .un] s = some (.lst (zipT [g.map T.int, (g.drop 1).map T.int]), s) := by
      rw [← this]; rfl
    exact sq_of e (by rw [zipC_map]; rfl)
  · rw [all_map, asc_zip h.asc]
end
end Gh
set_option linter.all false
set_option maxRecDepth 10000
namespace Gh
structure Ilk where
  time : Int
  greens : List Int
  ended : List (Int × Int)
  taken : Int
  wished : List Int
  until_ : Int
def Ilk.kvs (s : Ilk) : List (K × T) := [(.inr "time", .int s.time), (.inr "greens", eR s.greens), (.inr "ended", .ptup (s.ended.map e2)), (.inr "dark", .tup []), (.inr "faint", .tup []), (.inr "taken", .int s.taken), (.inr "wished", eR s.wished), (.inr "until", .int s.until_)]
def Ilk.e (s : Ilk) : T := .dK s.kvs
section
variable {Φ : String → List T → Src → Option (T × Src)} {c : Cr} {s : Src} {st : Ilk}
theorem new_ev : evFn Φ d_new_interlock [c.e] s = some ((Ilk.mk 0 [] [] 0 [] 0).e, s) := rfl
theorem is_wish_ev (k : c.Ok) (hw : ∀ i s, Φ "is_whole" [.int i] s = some (.bl true, s)) (hg : ∀ g s, Gr c g → Φ "is_greens" [c.e, eR g] s = some (.bl true, s)) {number : Int} {g : List Int} (hn : 1 ≤ number) (h : Gr c g) :
    evFn Φ d_is_wish [c.e, .tup [.int number, eR g, .int 1]] s = some (.bl true, s) := by
  refine fn_rt rfl (x_nx (x_f rfl rfl) (x_nx (x_asgT (s1 := s) rfl rfl) (x_nx (x_fz (z := false || (decide (number < 1) || (false || false))) ?_ (by simp; omega) rfl) (x_rt (x_ret (ev_call (xs := [c.e, eR g]) (s1 := s) rfl (hg g s h)))))))
  exact ev_orB (p := false) (ev_not (z := true) (ev_call (xs := [.int number]) (s1 := s) rfl (hw _ _))) fun _ => ev_orB rfl fun _ => ev_orB (p := false) (ev_not (z := true) (ev_call (xs := [.int 1]) (s1 := s) rfl (hw _ _))) fun _ => rfl
theorem wish_heard_ev (k : c.Ok) {number : Int} {g : List Int} (hw : Φ "is_wish" [c.e, .tup [.int number, eR g, .int 1]] s = some (.bl true, s)) (hn : st.taken < number) :
    evFn Φ d_wish_heard [c.e, st.e, .tup [.int number, eR g, .int 1]] s = some ((Ilk.mk st.time st.greens st.ended number g (st.time + 1)).e, s) := by
  refine fn_rt rfl (x_nx (x_fz (z := false || decide (number ≤ st.taken)) ?_ (by simp; omega) rfl) (x_nx (x_asgT (s1 := s) rfl rfl) (x_rt (x_ret ?_))))
  · exact ev_orB (p := false) (ev_not (z := true) (ev_call (xs := [c.e, .tup [.int number, eR g, .int 1]]) (s1 := s) rfl hw)) fun _ => rfl
  · have h := ev_dctS (Φ := Φ) (m := false) (o := .var 1) (ds := [(.kv (.cS "taken") (.var 3)), (.kv (.cS "wished") (.var 4)), (.kv (.cS "until") (.bin .add (.idx (.var 1) (.cS "time")) (.var 5)))]) (env := [.sh c.e, .sh st.e, .sh (.tup [.int number, eR g, .int 1]), .sh (.int number), .sh (eR g), .sh (.int 1)]) (s := s) (s1 := s) (s2 := s) (kvs := st.kvs) (ps := [(.inr "taken", .int number), (.inr "wished", eR g), (.inr "until", .int (st.time + 1))]) rfl (by simp [Ilk.kvs]) rfl (by simp)
    have e : T.dK (merge (merge [] st.kvs) (merge [] [(.inr "taken", .int number), (.inr "wished", eR g), (.inr "until", .int (st.time + 1))])) = (Ilk.mk st.time st.greens st.ended number g (st.time + 1)).e := by simp [merge, put, Ilk.e, Ilk.kvs]
    rw [e] at h
    exact h
/-- when a movement was green last -/
def lastG (st : Ilk) (i : Int) : T := if st.greens.contains i then .int st.time else (look (merge [] (st.ended.map kv)) (.inl i)).getD .non
theorem lastG_of (st : Ilk) (i : Int) : lastG st i = .non ∨ ∃ l, lastG st i = .int l ∧ ((i ∈ st.greens ∧ l = st.time) ∨ (i, l) ∈ st.ended) := by
  unfold lastG
  split
  · rename_i h
    exact .inr ⟨_, rfl, .inl ⟨by simpa using h, rfl⟩⟩
  · cases h : look (merge [] (st.ended.map kv)) (.inl i) with
    | none => exact .inl rfl
    | some v =>
      rcases merge_mem (look_mem h) with h1 | h1
      · cases h1
      · obtain ⟨p, hp, e⟩ := List.mem_map.mp h1
        simp only [kv, Prod.mk.injEq, Sum.inl.injEq] at e
        obtain ⟨rfl, rfl⟩ := e
        exact .inr ⟨_, rfl, .inr hp⟩
theorem last_green_ev (i : Int) : evFn Φ d_last_green [st.e, .int i] s = some (lastG st i, s) := by
  unfold lastG
  cases h : st.greens.contains i with
  | true => exact fn_rt rfl (x_rt (x_t (by rw [← h]; exact ev_cmp (s1 := s) rfl rfl (in_eR _ _)) (x_rt (x_ret rfl))))
  | false =>
    refine fn_rt rfl (x_nx (x_f (by rw [← h]; exact ev_cmp (s1 := s) rfl rfl (in_eR _ _)) rfl) (x_rt (x_ret ?_)))
    exact ev_get (s1 := s) (s2 := s) (x := .dK (merge [] (st.ended.map kv))) (ev_bi (x := .ptup (st.ended.map e2)) (s1 := s) rfl (by show (pairsOf _).map _ = _; rw [pairsOf_e2]; rfl)) rfl rfl
theorem barred_ev (k : c.Ok) (i : Int) (hf : Φ "foes_of" [c.e, .int i] s = some (eR (foes c i), s)) : evFn Φ d_is_barred [c.e, st.e, .int i] s = some (.bl false, s) := by
  refine fn_rt rfl (x_rt (x_ret ?_))
  have h := ev_orB (Φ := Φ) (m := false) (a := .cmp .inn (.var 2) (.idx (.var 1) (.cS "faint"))) (b := .bi .any (.comp (.cmp .inn (.var 3) (.idx (.var 1) (.cS "dark"))) (.var 3) (.call "foes_of" [(.var 0), (.var 2)]) (.cB true) [3])) (env := [.sh c.e, .sh st.e, .sh (.int i), .un]) (s := s) (p := false) (q := (foes c i).any fun _ => false) rfl fun _ =>
    ev_bi (s1 := s) (ev_compM (enc := T.int) (s1 := s) (foes c i) (fun _ => .bl false) (sq_of (ev_call (xs := [c.e, .int i]) (s1 := s) rfl hf) rfl) rfl (by have := foes_len k i; omega) fun j hj => ⟨_, rfl, rfl⟩) (any_map _ _)
  rw [List.any_eq_false.mpr (by simp)] at h
  exact h
/-- what a green's begin waits for -/
def Due (c : Cr) (st : Ilk) (i t : Int) : Prop := wid c + 1 ≤ t ∧ ∀ f ∈ foes c i, ∀ l, lastG st f = .int l → l + clr c f i + 1 ≤ t
theorem first_tick_ev (k : c.Ok) (i t : Int) (hf : ∀ i s, Φ "foes_of" [c.e, .int i] s = some (eR (foes c i), s)) (hw : ∀ s, Φ "widest_clearance" [c.e] s = some (.int (wid c), s)) (hl : ∀ j s, Φ "last_green" [st.e, .int j] s = some (lastG st j, s))
    (hc : ∀ i j s, Φ "clearance" [c.e, .int i, .int j] s = some (.int (clr c i j), s)) (h : Due c st i t) : ∃ f, f ≤ t ∧ evFn Φ d_first_tick [c.e, st.e, .int i] s = some (.int f, s) := by
  obtain ⟨env', s', h1, f, v4, v5, h2, h3, h4⟩ := forL_all (tg := .var 4) (enc := T.int) (body := evSs Φ [(.asg (.var 5) (.call "last_green" [(.var 1), (.var 4)])), (.ite (.isN true (.var 5)) [(.asg (.var 3) (.bi2 .max (.var 3) (.bin .add (.bin .add (.var 5) (.call "clearance" [(.var 0), (.var 4), (.var 2)])) (.cI 1))))] [])])
    (fun env s' => ∃ f v4 v5, env = [.sh c.e, .sh st.e, .sh (.int i), .sh (.int f), v4, v5] ∧ f ≤ t ∧ s' = s) (foes c i) (env := [.sh c.e, .sh st.e, .sh (.int i), .sh (.int (wid c + 1)), .un, .un]) (s := s) ⟨_, _, _, rfl, h.1, rfl⟩ (by
    rintro j env s' hj ⟨f, v4, v5, rfl, hft, rfl⟩
    rcases lastG_of st j with hn | ⟨l, hn, _⟩
    · refine ⟨_, _, _, rfl, x_nx (x_asg (s1 := s') (t := .non) (ev_call (xs := [st.e, .int j]) (s1 := s') rfl (by rw [← hn]; exact hl j s')) rfl rfl) (x_one (x_f (ev_isN_non rfl) rfl)), f, _, _, rfl, hft, rfl⟩
    · have hd := h.2 j hj l hn
      have e1 : evE Φ (.call "last_green" [(.var 1), (.var 4)]) false [.sh c.e, .sh st.e, .sh (.int i), .sh (.int f), .sh (.int j), v5] s' = some (.int l, s') := ev_call (xs := [st.e, .int j]) (s1 := s') rfl (by rw [← hn]; exact hl j s')
      have e2 : evE Φ (.bi2 .max (.var 3) (.bin .add (.bin .add (.var 5) (.call "clearance" [(.var 0), (.var 4), (.var 2)])) (.cI 1))) false [.sh c.e, .sh st.e, .sh (.int i), .sh (.int f), .sh (.int j), .sh (.int l)] s' = some (.int (if l + clr c j i + 1 > f then l + clr c j i + 1 else f), s') :=
        ev_bi2 (x := .int f) (y := .int (l + clr c j i + 1)) (s1 := s') rfl (ev_bin (x := .int (l + clr c j i)) (y := .int 1) (s1 := s') (ev_bin (x := .int l) (y := .int (clr c j i)) (s1 := s') rfl (ev_call (xs := [c.e, .int j, .int i]) (s1 := s') rfl (hc j i s')) rfl) rfl rfl) rfl
      refine ⟨_, _, _, rfl, x_nx (x_asg e1 rfl rfl) (x_one (x_t (ev_isN (x := .int l) rfl (fun z => by cases z)) (x_one (x_asg e2 rfl rfl)))), _, _, _, rfl, ?_, rfl⟩
      split <;> omega)
  subst h4
  subst h2
  refine ⟨f, h3, fn_rt rfl (x_nx (x_asg (s1 := s') (t := .int (wid c + 1)) (ev_bin (x := .int (wid c)) (y := .int 1) (s1 := s') (ev_call (xs := [c.e]) (s1 := s') rfl (hw s')) rfl rfl) rfl rfl) (x_nx (x_for (sq_of (ev_call (xs := [c.e, .int i]) (s1 := s') rfl (hf i s')) rfl) h1) (x_nx (x_share rfl rfl) (x_rt (x_ret rfl)))))⟩
/-- what is wished in the next tick -/
def Ilk.want (st : Ilk) : List Int := if st.time + 1 ≤ st.until_ then st.wished else []
def Ilk.next (st : Ilk) : Ilk := ⟨st.time + 1, st.want, sort2 ((st.ended.filter fun p => !st.want.contains p.1) ++ (st.greens.filter fun i => !st.want.contains i).map fun i => (i, st.time + 1 - 1)), st.taken, st.wished, st.until_⟩
theorem next_shown_ev (k : c.Ok) (hb : ∀ i s, Φ "is_barred" [c.e, st.e, .int i] s = some (.bl false, s)) (hf : ∀ i s, Φ "foes_of" [c.e, .int i] s = some (eR (foes c i), s))
    (ht : ∀ i t s, Due c st i t → ∃ f, f ≤ t ∧ Φ "first_tick" [c.e, st.e, .int i] s = some (.int f, s)) (hG : Gr c st.want) (hgl : st.greens.length ≤ 1000) (hel : st.ended.length ≤ 1000)
    (hin : ∀ i ∈ st.want, ∀ j ∈ st.want, crs c i j = false) (hd : ∀ i ∈ st.want, Due c st i (st.time + 1)) : evFn Φ d_next_shown [c.e, st.e] s = some (.tup [st.next.e, eR st.want], s) := by
  have hwl := hG.len k
  generalize hw : st.want = w at *
  let t := st.time + 1
  have q1 : evE Φ (.ite (.cmp .le (.var 2) (.idx (.var 1) (.cS "until"))) (.idx (.var 1) (.cS "wished")) (.tup [])) false [.sh c.e, .sh st.e, .sh (.int t), .un, .un, .un, .un, .un, .un, .un] s = some (eR w, s) := by
    refine ev_iteB (z := decide (t ≤ st.until_)) (s1 := s) rfl (fun h => ?_) (fun h => ?_)
    · have : w = st.wished := by rw [← hw]; unfold Ilk.want; rw [if_pos (of_decide_eq_true h)]
      rw [this]; rfl
    · have : w = [] := by rw [← hw]; unfold Ilk.want; rw [if_neg (of_decide_eq_false h)]
      rw [this]; rfl
  have q2 : evE Φ (.comp (.var 5) (.var 5) (.var 3) (.not (.call "is_barred" [(.var 0), (.var 1), (.var 5)])) [5]) false [.sh c.e, .sh st.e, .sh (.int t), .sh (eR w), .un, .un, .un, .un, .un, .un] s = some (.lst (eL w), s) := by
    have := ev_compP (Φ := Φ) (m := false) (enc := T.int) (elt := .var 5) (tg := .var 5) (it := .var 3) (c := .not (.call "is_barred" [(.var 0), (.var 1), (.var 5)])) (own := [5]) (env := [.sh c.e, .sh st.e, .sh (.int t), .sh (eR w), .un, .un, .un, .un, .un, .un]) (s := s) (s1 := s) w (fun _ => true) T.int rfl rfl (by omega) fun i hi => ⟨_, rfl, ev_not (z := false) (ev_call (xs := [c.e, st.e, .int i]) (s1 := s) rfl (hb i s)), fun _ => rfl⟩
    rw [List.filter_eq_self.mpr (by simp)] at this
    exact this
  have q3 : evE Φ (.comp (.var 5) (.var 5) (.var 3) (.cmp .inn (.var 5) (.idx (.var 1) (.cS "greens"))) [5]) false [.sh c.e, .sh st.e, .sh (.int t), .ow (.lst (eL w)), .un, .un, .un, .un, .un, .un] s = some (.lst (eL (w.filter fun i => st.greens.contains i)), s) :=
    ev_compP (enc := T.int) (s1 := s) w (fun i => st.greens.contains i) T.int rfl rfl (by omega) fun i hi => ⟨_, rfl, ev_cmp (s1 := s) rfl rfl (in_eR _ _), fun _ => rfl⟩
  have hnd : w.Nodup := hG.asc.imp fun h => by omega
  obtain ⟨env', s', h1, sh, v5, h2, hv5, h3, h4, h5, h6⟩ := forL_inv (tg := .var 5) (body := evSs Φ [(.ite (.and (.cmp .nin (.var 5) (.var 4)) (.cmp .le (.call "first_tick" [(.var 0), (.var 1), (.var 5)]) (.var 2))) [(.ite (.not (.bi .any (.comp (.cmp .inn (.var 9) (.var 4)) (.var 9) (.call "foes_of" [(.var 0), (.var 5)]) (.cB true) [9]))) [(.app 4 (.var 5))] [])] [])])
    (fun k env s' => ∃ sh v5, env = [.sh c.e, .sh st.e, .sh (.int t), .sh (.lst (eL w)), .ow (.lst (eL sh)), v5, .un, .un, .un, .un] ∧ freeB (some v5) = true ∧ s' = s ∧ sh.Nodup ∧ (∀ x ∈ sh, x ∈ w) ∧ ∀ x ∈ w.take k, x ∈ sh) (eL w) 0
    [.sh c.e, .sh st.e, .sh (.int t), .sh (.lst (eL w)), .ow (.lst (eL (w.filter fun i => st.greens.contains i))), .un, .un, .un, .un, .un] s
    ⟨_, _, rfl, rfl, rfl, hnd.filter _, fun x hx => (List.mem_filter.mp hx).1, fun x hx => by simp at hx⟩ (by
    rintro j x env s' hj ⟨sh, v5, rfl, hv5, rfl, g1, g2, g3⟩
    rw [Nat.zero_add] at g3
    unfold eL at hj
    rw [List.getElem?_map, Option.map_eq_some_iff] at hj
    obtain ⟨i, hi, rfl⟩ := hj
    have hiw := List.mem_of_getElem? hi
    have htk : w.take (j + 1) = w.take j ++ [i] := by rw [List.take_succ, hi]; rfl
    rw [Nat.zero_add, htk]
    obtain ⟨f, hf1, hf2⟩ := ht i t s' (hd i hiw)
    cases hc : sh.contains i with
    | true =>
      refine ⟨_, _, _, rfl, x_one (x_fz (z := !sh.contains i && decide (f ≤ t)) (ev_andB (ev_cmp (s1 := s') rfl rfl (nin_eLl _ _)) fun _ => ev_cmp (x := .int f) (y := .int t) (s1 := s') (ev_call (xs := [c.e, st.e, .int i]) (s1 := s') rfl hf2) rfl rfl) (by rw [hc]; rfl) rfl), sh, _, rfl, rfl, rfl, g1, g2, fun x hx => ?_⟩
      rcases List.mem_append.mp hx with hx | hx
      · exact g3 x hx
      · simp at hx; subst hx; simpa using hc
    | false =>
      have hc' : i ∉ sh := by simpa using hc
      have hany : ((foes c i).any fun f => sh.contains f) = false := by
        rw [List.any_eq_false]
        intro f hf' hfs
        have := hin i hiw f (g2 f (by simpa using hfs))
        rw [(mem_foes k).mp hf'] at this
        cases this
      have e2 : evE Φ (.not (.bi .any (.comp (.cmp .inn (.var 9) (.var 4)) (.var 9) (.call "foes_of" [(.var 0), (.var 5)]) (.cB true) [9]))) true [.sh c.e, .sh st.e, .sh (.int t), .sh (.lst (eL w)), .ow (.lst (eL sh)), .sh (.int i), .un, .un, .un, .un] s' = some (.bl (!false), s') := by
        rw [← hany]
        exact ev_not (ev_bi (s1 := s') (ev_compM (enc := T.int) (s1 := s') (foes c i) (fun f => .bl (sh.contains f)) (sq_of (ev_call (xs := [c.e, .int i]) (s1 := s') rfl (hf i s')) rfl) rfl (by have := foes_len k i; omega) fun f hf => ⟨_, rfl, ev_cmp (s1 := s') rfl rfl (in_eLl _ _)⟩) (any_map _ _))
      have hsl : sh.length ≤ w.length := by
        have := List.Nodup.length_le_of_subset g1 (fun x hx => g2 x hx)
        exact this
      refine ⟨_, _, _, rfl, x_one (x_tz (z := !sh.contains i && decide (f ≤ t)) (ev_andB (ev_cmp (s1 := s') rfl rfl (nin_eLl _ _)) fun _ => ev_cmp (x := .int f) (y := .int t) (s1 := s') (ev_call (xs := [c.e, st.e, .int i]) (s1 := s') rfl hf2) rfl rfl) (by rw [hc]; simpa using hf1) (x_one (x_t e2 (x_one (x_app (t := .int i) (ys := eL sh) (s1 := s') rfl rfl (by simp [eL, line]; omega)))))), sh ++ [i], _, (by simp [eL]; rfl), rfl, rfl, ?_, ?_, ?_⟩
      · rw [List.nodup_append]
        exact ⟨g1, by simp, fun a ha b hb e => hc' (by simp at hb; rw [← hb, ← e]; exact ha)⟩
      · intro x hx
        rcases List.mem_append.mp hx with hx | hx
        · exact g2 x hx
        · simp at hx; rw [hx]; exact hiw
      · intro x hx
        rcases List.mem_append.mp hx with hx | hx
        · exact List.mem_append_left _ (g3 x hx)
        · exact List.mem_append_right _ hx)
  subst h3
  subst h2
  have hperm : sh.Perm w := (List.perm_ext_iff_of_nodup h4 hnd).mpr fun x => ⟨h5 x, fun hx => h6 x (by simpa [eL] using hx)⟩
  have hsort := sortI_perm hperm hG.asc
  have q6 : evE Φ (.bi .tuple (.bi .sorted (.var 4))) false [.sh c.e, .sh st.e, .sh (.int t), .sh (.lst (eL w)), .ow (.lst (eL sh)), v5, .un, .un, .un, .un] s' = some (eR w, s') := ev_bi (x := .lst (eL w)) (s1 := s') (ev_bi (x := .lst (eL sh)) (s1 := s') rfl (by rw [sort_ints, hsort])) rfl
  have q7 : evE Φ (.comp (.var 8) (.var 8) (.idx (.var 1) (.cS "ended")) (.cmp .nin (.idx (.var 8) (.cI 0)) (.var 6)) [8]) false [.sh c.e, .sh st.e, .sh (.int t), .sh (.lst (eL w)), .ow (.lst (eL sh)), v5, .sh (eR w), .un, .un, .un] s' = some (.lst ((st.ended.filter fun p => !w.contains p.1).map e2), s') :=
    ev_compP (enc := e2) (s1 := s') st.ended (fun p => !w.contains p.1) e2 rfl rfl (by omega) fun p hp => ⟨_, rfl, ev_cmp (x := .int p.1) (s1 := s') rfl rfl (nin_eR _ _), fun _ => rfl⟩
  have hfree : ownFree [.sh c.e, .sh st.e, .sh (.int t), .sh (.lst (eL w)), .ow (.lst (eL sh)), v5, .sh (eR w), .ow (.lst ((st.ended.filter fun p => !w.contains p.1).map e2)), .un, .un] [5] = true := by
    simp only [ownFree, List.all_cons, List.all_nil, Bool.and_true]
    exact hv5
  have q8 : evE Φ (.comp (.tup [(.var 5), (.bin .sub (.var 2) (.cI 1))]) (.var 5) (.idx (.var 1) (.cS "greens")) (.cmp .nin (.var 5) (.var 6)) [5]) true [.sh c.e, .sh st.e, .sh (.int t), .sh (.lst (eL w)), .ow (.lst (eL sh)), v5, .sh (eR w), .ow (.lst ((st.ended.filter fun p => !w.contains p.1).map e2)), .un, .un] s' =
      some (.lst ((st.greens.filter fun i => !w.contains i).map fun i => e2 (i, t - 1)), s') :=
    ev_compP (enc := T.int) (s1 := s') st.greens (fun i => !w.contains i) (fun i => e2 (i, t - 1)) rfl hfree (by omega) fun i hi => ⟨_, rfl, ev_cmp (x := .int i) (s1 := s') rfl rfl (nin_eR _ _), fun _ => rfl⟩
  have hl1 := List.length_filter_le (fun p : Int × Int => !w.contains p.1) st.ended
  have hl2 := List.length_filter_le (fun i => !w.contains i) st.greens
  let en := (st.ended.filter fun p => !w.contains p.1) ++ (st.greens.filter fun i => !w.contains i).map fun i => (i, t - 1)
  have q9 : evE Φ (.tup [(.dctS (.var 1) [(.kv (.cS "time") (.var 2)), (.kv (.cS "greens") (.var 6)), (.kv (.cS "ended") (.bi .ptuple (.bi .sorted (.var 7))))]), (.var 6)]) false [.sh c.e, .sh st.e, .sh (.int t), .sh (.lst (eL w)), .ow (.lst (eL sh)), v5, .sh (eR w), .ow (.lst (en.map e2)), .un, .un] s' = some (.tup [st.next.e, eR w], s') := by
    refine ev_tup (es_cons (s1 := s') ?_ (es_cons (s1 := s') (x := eR w) rfl es_nil)) (by simp [line])
    have h := ev_dctS (Φ := Φ) (m := false) (o := .var 1) (ds := [(.kv (.cS "time") (.var 2)), (.kv (.cS "greens") (.var 6)), (.kv (.cS "ended") (.bi .ptuple (.bi .sorted (.var 7))))]) (env := [.sh c.e, .sh st.e, .sh (.int t), .sh (.lst (eL w)), .ow (.lst (eL sh)), v5, .sh (eR w), .ow (.lst (en.map e2)), .un, .un]) (s := s') (s1 := s') (s2 := s') (kvs := st.kvs) (ps := [(.inr "time", .int t), (.inr "greens", eR w), (.inr "ended", .ptup ((sort2 en).map e2))]) rfl (by simp [Ilk.kvs])
      (ed_cons (kt := .str "time") (t := .int t) (s1 := s') (s2 := s') rfl rfl rfl (ed_cons (kt := .str "greens") (t := eR w) (s1 := s') (s2 := s') rfl rfl rfl (ed_cons (kt := .str "ended") (s1 := s') (s2 := s') rfl (ev_bi (x := .lst ((sort2 en).map e2)) (s1 := s') (ev_bi (x := .lst (en.map e2)) (s1 := s') rfl (sort_e2 en)) rfl) rfl ed_nil))) (by simp)
    have e : T.dK (merge (merge [] st.kvs) (merge [] [(.inr "time", .int t), (.inr "greens", eR w), (.inr "ended", .ptup ((sort2 en).map e2))])) = st.next.e := by
      simp [merge, put, Ilk.e, Ilk.kvs, Ilk.next, hw, en, t]
    rw [e] at h
    exact h
  refine fn_rt rfl (x_nx (x_asg (s1 := s') (t := .int t) rfl rfl rfl) (x_nx (x_asg q1 rfl rfl) (x_nx (x_asg q2 rfl rfl) (x_nx (x_asg q3 rfl rfl) (x_nx (x_share rfl rfl) (x_nx (x_for (xs := eL w) (s1 := s') rfl h1) (x_nx (x_asg q6 rfl rfl) (x_nx (x_asg q7 rfl rfl) (x_nx (x_ext q8 rfl ?_) (x_nx (x_share rfl rfl) (x_rt (x_ret ?_))))))))))))
  · rw [List.length_map, List.length_map]; unfold line; omega
  · have : en.map e2 = ((st.ended.filter fun p => !w.contains p.1).map e2) ++ ((st.greens.filter fun i => !w.contains i).map fun i => e2 (i, t - 1)) := by simp [en, Function.comp_def]
    rw [this] at q9
    exact q9
end
end Gh
set_option linter.all false
set_option maxRecDepth 10000
namespace Gh
/-- a whole tale, a plan's lamps: movements tick by tick -/
def eT (R : List (List Int)) : T := .tup (R.map eR)
/-- WIDE: whoever crosses one that was green waits for his clearance -/
def Wide (c : Cr) (R : List (List Int)) : Prop := ∀ (a b : Nat) (g h : List Int), a ≤ b → R[a]? = some g → R[b]? = some h → ∀ i ∈ g, ∀ j ∈ h, ∀ v, fnd c.X i j = some v → v < (b : Int) - (a : Int)
structure Tale (c : Cr) (R : List (List Int)) : Prop where
  gr : ∀ g ∈ R, Gr c g
  wide : Wide c R
  len : R.length ≤ 1000
theorem Tale.row {c : Cr} {R : List (List Int)} (k : c.Ok) (t : Tale c R) {b : Nat} {g : List Int} (h : R[b]? = some g) : ∀ i ∈ g, ∀ j ∈ g, crs c i j = false := fun i hi j hj => by
  cases e : fnd c.X i j with
  | none => unfold crs; rw [e]; rfl
  | some v =>
    have := t.wide b b g g (Nat.le_refl _) h h i hi j hj v e
    have := (k.fnd0 e).1
    omega
/-- the law of the clearances between an earlier green and a later one -/
theorem Tale.clr {c : Cr} {R : List (List Int)} (k : c.Ok) (t : Tale c R) {a b : Nat} (hab : a < b) {g h : List Int} (ha : R[a]? = some g) (hb : R[b]? = some h) {i j : Int} (hi : i ∈ g) (hj : j ∈ h) : clr c i j < (b : Int) - (a : Int) := by
  unfold Gh.clr
  cases e : fnd c.X i j with
  | none => simp; omega
  | some v => exact t.wide a b g h (by omega) ha hb i hi j hj v e
section
variable {Φ : String → List T → Src → Option (T × Src)} {c : Cr} {s : Src} {R : List (List Int)}
theorem eT_get {b : Nat} {g : List Int} (h : R[b]? = some g) : (R.map eR)[b]? = some (eR g) := by rw [List.getElem?_map, h]; rfl
/-- what the judges keep in mind of the ticks before b: d is how their ticks are numbered -/
def Mem (R : List (List Int)) (d : Int) (b : Nat) (L : List (K × T)) : Prop := ∀ p ∈ L, ∃ (i : Int) (a : Nat) (g : List Int), p = (.inl i, .int ((a : Int) + d)) ∧ a < b ∧ R[a]? = some g ∧ i ∈ g
theorem Mem.look {d : Int} {b : Nat} {L : List (K × T)} (h : Mem R d b L) {i : Int} {v : T} (e : look L (.inl i) = some v) : ∃ (a : Nat) (g : List Int), v = .int ((a : Int) + d) ∧ a < b ∧ R[a]? = some g ∧ i ∈ g := by
  obtain ⟨j, a, g, e1, h1, h2, h3⟩ := h _ (look_mem e)
  cases e1
  exact ⟨a, g, rfl, h1, h2, h3⟩
theorem Mem.mono {d : Int} {b b' : Nat} {L : List (K × T)} (h : Mem R d b L) (hb : b ≤ b') : Mem R d b' L := fun p hp => by
  obtain ⟨i, a, g, e, h1, h2⟩ := h p hp
  exact ⟨i, a, g, e, by omega, h2⟩
theorem Mem.put {d : Int} {b : Nat} {L : List (K × T)} (h : Mem R d (b + 1) L) {g : List Int} (hg : R[b]? = some g) {i : Int} (hi : i ∈ g) : Mem R d (b + 1) (put L (.inl i) (.int ((b : Int) + d))) := fun p hp => by
  rcases put_mem hp with hp | rfl
  · exact h p hp
  · exact ⟨i, b, g, rfl, by omega, hg, hi⟩
theorem Mem.merge {d : Int} {b : Nat} {L : List (K × T)} (h : Mem R d b L) {g : List Int} (hg : R[b]? = some g) : Mem R d (b + 1) (merge L (merge [] ((g.map fun i => (i, (b : Int) + d)).map kv))) := fun p hp => by
  rcases merge_mem hp with hp | hp
  · exact h.mono (by omega) p hp
  · rcases merge_mem hp with hp | hp
    · cases hp
    · obtain ⟨q, hq, rfl⟩ := List.mem_map.mp hp
      obtain ⟨i, hi, rfl⟩ := List.mem_map.mp hq
      exact ⟨i, b, g, rfl, by omega, hg, hi⟩
theorem tick_fault_ev (k : c.Ok) (hT : Tale c R) (hf : ∀ i s, Φ "foes_of" [c.e, .int i] s = some (eR (foes c i), s)) (hc : ∀ i j s, Φ "clearance" [c.e, .int i, .int j] s = some (.int (clr c i j), s))
    {b : Nat} {g : List Int} (hb : R[b]? = some g) {L : List (K × T)} (hL : Mem R 1 b L) : evFn Φ d_tick_fault [c.e, eT R, .int ((b : Int) + 1), .dK L] s = some (.non, s) := by
  have hbl := (List.getElem?_eq_some_iff.mp hb).1
  obtain ⟨ah, hah⟩ : ∃ ah : List Int, evE Φ (.ite (.cmp .gt (.var 2) (.cI 1)) (.idx (.var 1) (.bin .sub (.var 2) (.cI 2))) (.tup [])) false [.sh c.e, .sh (eT R), .sh (.int ((b : Int) + 1)), .sh (.dK L), .un, .un, .un, .un] s = some (eR ah, s) := by
    by_cases h0 : b = 0
    · subst h0
      exact ⟨[], ev_iteB (z := false) (s1 := s) rfl (fun z => by cases z) (fun _ => rfl)⟩
    · have h1 : b - 1 < R.length := by omega
      refine ⟨R[b - 1], ev_iteB (z := decide ((1 : Int) < (b : Int) + 1)) (s1 := s) rfl (fun _ => ?_) (fun z => by simp at z; omega)⟩
      refine ev_idx (x := eT R) (y := .int ((b : Int) + 1 - 2)) (s1 := s) rfl rfl ?_
      rw [show (b : Int) + 1 - 2 = ((b - 1 : Nat) : Int) by omega]
      exact ix_nat (eT_get (List.getElem?_eq_getElem h1))
  have h0 : evS Φ (.asgs [(.var 4), (.var 5)] [(.idx (.var 1) (.bin .sub (.var 2) (.cI 1))), (.ite (.cmp .gt (.var 2) (.cI 1)) (.idx (.var 1) (.bin .sub (.var 2) (.cI 2))) (.tup []))]) [.sh c.e, .sh (eT R), .sh (.int ((b : Int) + 1)), .sh (.dK L), .un, .un, .un, .un] s =
      some (.nx, [.sh c.e, .sh (eT R), .sh (.int ((b : Int) + 1)), .sh (.dK L), .sh (eR g), .sh (eR ah), .un, .un], s) := by
    have hi : evE Φ (.idx (.var 1) (.bin .sub (.var 2) (.cI 1))) false [.sh c.e, .sh (eT R), .sh (.int ((b : Int) + 1)), .sh (.dK L), .un, .un, .un, .un] s = some (eR g, s) := by
      refine ev_idx (x := eT R) (y := .int ((b : Int) + 1 - 1)) (s1 := s) rfl rfl ?_
      rw [show (b : Int) + 1 - 1 = (b : Int) by omega]
      exact ix_nat (eT_get hb)
    have := es_cons hi (es_cons hah es_nil)
    simp only [evS, this]
    rfl
  have hrow := hT.row k hb
  have hgr := hT.gr g (List.mem_of_getElem? hb)
  have hgl := hgr.len k
  obtain ⟨e1, s1, l1, ⟨v6, v7, l2, l3⟩⟩ := forL_all (tg := .var 6) (enc := T.int) (body := evSs Φ [(.for_ (.var 7) (.call "foes_of" [(.var 0), (.var 6)]) [(.ite (.and (.cmp .lt (.var 6) (.var 7)) (.cmp .inn (.var 7) (.var 4))) [(.ret (.tup [(.cS "both"), (.var 2), (.var 6), (.var 7)]))] [])])])
    (fun env s' => ∃ v6 v7, env = [.sh c.e, .sh (eT R), .sh (.int ((b : Int) + 1)), .sh (.dK L), .sh (eR g), .sh (eR ah), v6, v7] ∧ s' = s) g (env := [.sh c.e, .sh (eT R), .sh (.int ((b : Int) + 1)), .sh (.dK L), .sh (eR g), .sh (eR ah), .un, .un]) (s := s) ⟨_, _, rfl, rfl⟩ (by
    rintro i env s' hi ⟨v6, v7, rfl, rfl⟩
    obtain ⟨e1, s1, l1, ⟨v7', l2, l3⟩⟩ := forL_all (tg := .var 7) (enc := T.int) (body := evSs Φ [(.ite (.and (.cmp .lt (.var 6) (.var 7)) (.cmp .inn (.var 7) (.var 4))) [(.ret (.tup [(.cS "both"), (.var 2), (.var 6), (.var 7)]))] [])])
      (fun env s'' => ∃ v7, env = [.sh c.e, .sh (eT R), .sh (.int ((b : Int) + 1)), .sh (.dK L), .sh (eR g), .sh (eR ah), .sh (.int i), v7] ∧ s'' = s') (foes c i) (env := [.sh c.e, .sh (eT R), .sh (.int ((b : Int) + 1)), .sh (.dK L), .sh (eR g), .sh (eR ah), .sh (.int i), v7]) (s := s') ⟨_, rfl, rfl⟩ (by
      rintro j env s'' hj ⟨v7, rfl, rfl⟩
      refine ⟨_, _, _, rfl, x_one (x_fz (z := decide (i < j) && g.contains j) (ev_andB rfl fun _ => ev_cmp (s1 := s'') rfl rfl (in_eR _ _)) ?_ rfl), _, rfl, rfl⟩
      have : g.contains j = false := by
        cases hc : g.contains j with
        | false => rfl
        | true =>
          have := hrow i hi j (by simpa using hc)
          rw [(mem_foes k).mp hj] at this
          cases this
      rw [this, Bool.and_false])
    subst l3
    exact ⟨_, _, _, rfl, x_one (x_for (sq_of (ev_call (xs := [c.e, .int i]) (s1 := s1) rfl (hf i s1)) rfl) l1), _, _, l2, rfl⟩)
  subst l3
  subst l2
  obtain ⟨e2, s2, m1, ⟨w6, w7, m2, m3⟩⟩ := forL_all (tg := .var 6) (enc := T.int) (body := evSs Φ [(.for_ (.var 7) (.call "foes_of" [(.var 0), (.var 6)]) [(.ite (.and (.cmp .inn (.var 7) (.var 4)) (.and (.cmp .nin (.var 7) (.var 5)) (.and (.cmp .inn (.var 6) (.var 3)) (.cmp .lt (.bin .sub (.var 2) (.idx (.var 3) (.var 6))) (.bin .add (.call "clearance" [(.var 0), (.var 6), (.var 7)]) (.cI 1)))))) [(.ret (.tup [(.cS "early"), (.var 2), (.var 6), (.var 7)]))] [])])])
    (fun env s' => ∃ v6 v7, env = [.sh c.e, .sh (eT R), .sh (.int ((b : Int) + 1)), .sh (.dK L), .sh (eR g), .sh (eR ah), v6, v7] ∧ s' = s1) (iota c.n) (env := [.sh c.e, .sh (eT R), .sh (.int ((b : Int) + 1)), .sh (.dK L), .sh (eR g), .sh (eR ah), v6, v7]) (s := s1) ⟨_, _, rfl, rfl⟩ (by
    rintro i env s' hi ⟨v6, v7, rfl, rfl⟩
    obtain ⟨e1, s1, l1, ⟨v7', l2, l3⟩⟩ := forL_all (tg := .var 7) (enc := T.int) (body := evSs Φ [(.ite (.and (.cmp .inn (.var 7) (.var 4)) (.and (.cmp .nin (.var 7) (.var 5)) (.and (.cmp .inn (.var 6) (.var 3)) (.cmp .lt (.bin .sub (.var 2) (.idx (.var 3) (.var 6))) (.bin .add (.call "clearance" [(.var 0), (.var 6), (.var 7)]) (.cI 1)))))) [(.ret (.tup [(.cS "early"), (.var 2), (.var 6), (.var 7)]))] [])])
      (fun env s'' => ∃ v7, env = [.sh c.e, .sh (eT R), .sh (.int ((b : Int) + 1)), .sh (.dK L), .sh (eR g), .sh (eR ah), .sh (.int i), v7] ∧ s'' = s') (foes c i) (env := [.sh c.e, .sh (eT R), .sh (.int ((b : Int) + 1)), .sh (.dK L), .sh (eR g), .sh (eR ah), .sh (.int i), v7]) (s := s') ⟨_, rfl, rfl⟩ (by
      rintro j env s'' hj ⟨v7, rfl, rfl⟩
      refine ⟨_, _, _, rfl, x_one (x_f ?_ rfl), _, rfl, rfl⟩
      cases h1 : g.contains j with
      | false => exact ev_and_z (ev_cmp (s1 := s'') rfl rfl (in_eR _ _)) h1
      | true =>
        refine ev_and_y (ev_cmp (s1 := s'') rfl rfl (in_eR _ _)) h1 ?_
        cases h2 : ah.contains j with
        | true => exact ev_and_z (ev_cmp (s1 := s'') rfl rfl (nin_eR _ _)) (by rw [h2]; rfl)
        | false =>
          refine ev_and_y (ev_cmp (s1 := s'') rfl rfl (nin_eR _ _)) (by rw [h2]; rfl) ?_
          cases h3 : look L (.inl i) with
          | none => exact ev_and_z (ev_cmp (s1 := s'') rfl rfl (in_dK _ _)) (by rw [h3]; rfl)
          | some v =>
            refine ev_and_y (ev_cmp (s1 := s'') rfl rfl (in_dK _ _)) (by rw [h3]; rfl) ?_
            obtain ⟨a, g', rfl, ha, hg', hi'⟩ := hL.look h3
            have hw := hT.clr k ha hg' hb hi' (j := j) (by simpa using h1)
            refine ev_bz (ev_cmp (x := .int ((b : Int) + 1 - ((a : Int) + 1))) (y := .int (clr c i j + 1)) (s1 := s'') (ev_bin (s1 := s'') rfl (ev_idx (s1 := s'') rfl rfl (ix_dK h3)) rfl) (ev_bin (s1 := s'') (ev_call (xs := [c.e, .int i, .int j]) (s1 := s'') rfl (hc i j s'')) rfl rfl) rfl) ?_
            simp; omega)
    subst l3
    exact ⟨_, _, _, rfl, x_one (x_for (sq_of (ev_call (xs := [c.e, .int i]) (s1 := s1) rfl (hf i s1)) rfl) l1), _, _, l2, rfl⟩)
  subst m3
  subst m2
  refine fn_rt rfl (x_nx h0 (x_nx (x_for (xs := g.map T.int) (s1 := s2) rfl l1) (x_nx (x_for (xs := (iota c.n).map T.int) (s1 := s2) (rng1 rfl (by have := k.n4; omega)) m1) (x_rt (x_ret rfl)))))
theorem greens_all (k : c.Ok) (hT : Tale c R) (hg : ∀ g s, Gr c g → Φ "is_greens" [c.e, eR g] s = some (.bl true, s)) {own : List Slot} {m : Bool} {i : Nat} {env : List Slot} (h0 : evE Φ (.var 1) true env s = some (eT R, s)) (hfree : ownFree env [i] = true)
    (he : ∀ g, ∃ env1, asgTg (.var i) (eR g) (wipe env [i]) = some env1 ∧ evEs Φ [.var 0, .var i] env1 s = some ([c.e, eR g], s)) : evE Φ (.bi .all (.comp (.call "is_greens" [(.var 0), (.var i)]) (.var i) (.var 1) (.cB true) [i])) m env s = some (.bl true, s) := by
  have h := ev_bi (m := m) (s1 := s) (ev_compM (m := true) (enc := eR) (s1 := s) (elt := .call "is_greens" [(.var 0), (.var i)]) (own := [i]) R (fun _ => .bl true) (sq_of h0 rfl) hfree (by have := hT.len; omega) fun g hgm => by
    obtain ⟨env1, e1, e2⟩ := he g
    exact ⟨env1, e1, ev_call e2 (hg g s (hT.gr g hgm))⟩) (all_map R fun _ => true)
  rw [List.all_eq_true.mpr (by simp)] at h
  exact h
theorem judge_tale_ev (k : c.Ok) (hT : Tale c R) (hg : ∀ g s, Gr c g → Φ "is_greens" [c.e, eR g] s = some (.bl true, s)) (htf : ∀ (b : Nat) g L s, R[b]? = some g → Mem R 1 b L → Φ "tick_fault" [c.e, eT R, .int ((b : Int) + 1), .dK L] s = some (.non, s)) :
    evFn Φ d_judge_tale [c.e, eT R] s = some (.non, s) := by
  have hRl := hT.len
  obtain ⟨e1, s1, l1, L, v3, v4, v5, l2, l3, l4, l5⟩ := forL_inv (tg := .tup [.var 3, .var 4]) (body := evSs Φ [(.asg (.var 5) (.callL "tick_fault" [(.var 0), (.var 1), (.bin .add (.var 3) (.cI 1)), (.var 2)])), (.ite (.isN true (.var 5)) [(.ret (.var 5))] []), (.upd 2 (.dcomp (.var 6) (.bin .add (.var 3) (.cI 1)) (.var 6) (.var 4) (.cB true) [6]))])
    (fun b env s' => ∃ L v3 v4 v5, env = [.sh c.e, .sh (eT R), .ow (.dK L), v3, v4, v5, .un] ∧ s' = s ∧ Mem R 1 b L ∧ L.length ≤ 4 * b) ((enL 0 R).map fun p => .tup [.int p.1, eR p.2]) 0 [.sh c.e, .sh (eT R), .ow (.dK []), .un, .un, .un, .un] s ⟨[], _, _, _, rfl, rfl, (fun p hp => by cases hp), by simp⟩ (by
    rintro b x env s' hb ⟨L, v3, v4, v5, rfl, rfl, g1, g2⟩
    rw [List.getElem?_map, enL_get, Option.map_map, Option.map_eq_some_iff] at hb
    obtain ⟨g, hb, rfl⟩ := hb
    rw [Nat.zero_add] at g1 g2 ⊢
    have hgr := hT.gr g (List.mem_of_getElem? hb)
    have hgl := hgr.len k
    have hbl := (List.getElem?_eq_some_iff.mp hb).1
    simp only [Function.comp, Nat.zero_add]
    have q1 : evE Φ (.callL "tick_fault" [(.var 0), (.var 1), (.bin .add (.var 3) (.cI 1)), (.var 2)]) false [.sh c.e, .sh (eT R), .ow (.dK L), .sh (.int b), .sh (eR g), v5, .un] s' = some (.non, s') :=
      ev_callL (xs := [c.e, eT R, .int ((b : Int) + 1), .dK L]) (s1 := s') rfl rfl (htf b g L s' hb g1) rfl
    have q2 : evE Φ (.dcomp (.var 6) (.bin .add (.var 3) (.cI 1)) (.var 6) (.var 4) (.cB true) [6]) true [.sh c.e, .sh (eT R), .ow (.dK L), .sh (.int b), .sh (eR g), .sh .non, .un] s' = some (.dK (merge [] ((g.map fun i => (i, (b : Int) + 1)).map kv)), s') := by
      refine ev_dcomp (xs := g.map T.int) (s1 := s') (ps := (g.map fun i => (i, (b : Int) + 1)).map e2) rfl rfl ?_ (dputs_e2 _ _ (by simp; omega))
      have := compL_pure (tg := .var 6) (c := evE Φ (.cB true) true) (env := [.sh c.e, .sh (eT R), .ow (.dK L), .sh (.int b), .sh (eR g), .sh .non, .un]) (s := s') (enc := T.int) (elt := fun env1 s => match evE Φ (.var 6) false env1 s with
        | none => none
        | some (x, s2) => (match evE Φ (.bin .add (.var 3) (.cI 1)) false env1 s2 with
          | none => none
          | some (y, s3) => some (.tup [x, y], s3))) (fun _ => true) (fun i => e2 (i, (b : Int) + 1)) g fun i hi => ⟨_, rfl, rfl, fun _ => rfl⟩
      rw [List.filter_eq_self.mpr (by simp)] at this
      rw [List.map_map]
      exact this
    refine ⟨_, _, _, rfl, x_nx (x_asg q1 rfl rfl) (x_nx (x_f (ev_isN_non rfl) rfl) (x_one (x_upd q2 rfl ?_))), _, _, _, _, rfl, rfl, g1.merge hb, ?_⟩
    all_goals
      have m1 := merge_len ((g.map fun i => (i, (b : Int) + 1)).map kv) ([] : List (K × T))
      simp only [List.length_map, List.length_nil] at m1
    · unfold line; omega
    · have m2 := merge_len (merge [] ((g.map fun i => (i, (b : Int) + 1)).map kv)) L
      omega)
  subst l3
  subst l2
  refine fn_rt rfl (x_nx (x_fz (z := false || !true) (ev_orB (p := false) rfl fun _ => ev_not (greens_all k hT hg (own := []) rfl rfl fun g => ⟨_, rfl, rfl⟩)) rfl rfl) (x_nx (x_asg (s1 := s1) (t := .dK []) rfl rfl rfl) (x_nx (x_for (xs := (enL 0 R).map fun p => .tup [.int p.1, eR p.2]) (s1 := s1) ?_ l1) (x_rt (x_ret rfl)))))
  rw [← numT_map]
  rfl
end
end Gh
set_option linter.all false
set_option maxRecDepth 10000
namespace Gh
section
variable {Φ : String → List T → Src → Option (T × Src)} {c : Cr} {s : Src} {R : List (List Int)}
def eTl (R : List (List Int)) : T := .lst (R.map eR)
theorem first_crossed_ev (k : c.Ok) (hT : Tale c R) (hc : ∀ i j s, Φ "do_cross" [c.e, .int i, .int j] s = some (.bl (crs c i j), s)) : evFn Φ d_first_crossed [c.e, eTl R] s = some (.non, s) := by
  obtain ⟨e1, s1, l1, v2, v3, v4, v5, l2, l3⟩ := forL_inv (tg := .tup [.var 2, .var 3]) (body := evSs Φ [(.for_ (.var 4) (.var 3) [(.for_ (.var 5) (.var 3) [(.ite (.and (.cmp .lt (.var 4) (.var 5)) (.call "do_cross" [(.var 0), (.var 4), (.var 5)])) [(.ret (.tup [(.cS "crossed"), (.var 2), (.var 4), (.var 5)]))] [])])])])
    (fun b env s' => ∃ v2 v3 v4 v5, env = [.sh c.e, .sh (eTl R), v2, v3, v4, v5] ∧ s' = s) ((enL 0 R).map fun p => .tup [.int p.1, eR p.2]) 0 [.sh c.e, .sh (eTl R), .un, .un, .un, .un] s ⟨_, _, _, _, rfl, rfl⟩ (by
    rintro b x env s' hb ⟨v2, v3, v4, v5, rfl, rfl⟩
    rw [List.getElem?_map, enL_get, Option.map_map, Option.map_eq_some_iff] at hb
    obtain ⟨g, hb, rfl⟩ := hb
    simp only [Function.comp, Nat.zero_add]
    have hrow := hT.row k hb
    obtain ⟨e1, s1, l1, v4', v5', l2, l3⟩ := forL_all (tg := .var 4) (enc := T.int) (body := evSs Φ [(.for_ (.var 5) (.var 3) [(.ite (.and (.cmp .lt (.var 4) (.var 5)) (.call "do_cross" [(.var 0), (.var 4), (.var 5)])) [(.ret (.tup [(.cS "crossed"), (.var 2), (.var 4), (.var 5)]))] [])])])
      (fun env s'' => ∃ v4 v5, env = [.sh c.e, .sh (eTl R), .sh (.int b), .sh (eR g), v4, v5] ∧ s'' = s') g (env := [.sh c.e, .sh (eTl R), .sh (.int b), .sh (eR g), v4, v5]) (s := s') ⟨_, _, rfl, rfl⟩ (by
      rintro i env s'' hi ⟨v4, v5, rfl, rfl⟩
      obtain ⟨e1, s1, l1, v5', l2, l3⟩ := forL_all (tg := .var 5) (enc := T.int) (body := evSs Φ [(.ite (.and (.cmp .lt (.var 4) (.var 5)) (.call "do_cross" [(.var 0), (.var 4), (.var 5)])) [(.ret (.tup [(.cS "crossed"), (.var 2), (.var 4), (.var 5)]))] [])])
        (fun env s' => ∃ v5, env = [.sh c.e, .sh (eTl R), .sh (.int b), .sh (eR g), .sh (.int i), v5] ∧ s' = s'') g (env := [.sh c.e, .sh (eTl R), .sh (.int b), .sh (eR g), .sh (.int i), v5]) (s := s'') ⟨_, rfl, rfl⟩ (by
        rintro j env s' hj ⟨v5, rfl, rfl⟩
        refine ⟨_, _, _, rfl, x_one (x_fz (z := decide (i < j) && crs c i j) (ev_andB rfl fun _ => ev_call (xs := [c.e, .int i, .int j]) (s1 := s') rfl (hc i j s')) ?_ rfl), _, rfl, rfl⟩
        rw [hrow i hi j hj, Bool.and_false])
      subst l3
      exact ⟨_, _, _, rfl, x_one (x_for (xs := g.map T.int) (s1 := s1) rfl l1), _, _, l2, rfl⟩)
    subst l3
    exact ⟨_, _, _, rfl, x_one (x_for (xs := g.map T.int) (s1 := s1) rfl l1), _, _, _, _, l2, rfl⟩)
  subst l3
  refine fn_rt rfl (x_nx (x_for (xs := (enL 0 R).map fun p => .tup [.int p.1, eR p.2]) (s1 := s1) ?_ l1) (x_rt (x_ret rfl)))
  rw [← numT_map]
  rfl
theorem nodup_len {g : List Int} {n : Nat} (h : g.Nodup) (m : ∀ i ∈ g, 0 ≤ i ∧ i < (n : Int)) : g.length ≤ n := by
  have h1 : g ⊆ iota n := fun x hx => mem_iota.mpr (m x hx)
  have := List.Nodup.length_le_of_subset h h1
  rwa [iota_len] at this
/-- a dict's keys -/
theorem keys_dK {L : List (K × T)} {R : List (List Int)} {d : Int} {b : Nat} (hL : Mem R d b L) : ∃ ks : List Int, (L.map fun kv => ofK kv.1) = eL ks ∧ ∀ i ∈ ks, ∃ v, look L (.inl i) = some v := by
  have h1 : ∃ ks : List Int, (L.map fun kv => ofK kv.1) = eL ks ∧ ∀ i ∈ ks, (.inl i : K) ∈ L.map (·.1) := by
    induction L with
    | nil => exact ⟨[], rfl, fun _ h => by cases h⟩
    | cons p L ih =>
      obtain ⟨ks, h1, h2⟩ := ih fun q hq => hL q (List.mem_cons_of_mem _ hq)
      obtain ⟨i, a, g, e, _⟩ := hL p List.mem_cons_self
      subst e
      refine ⟨i :: ks, by simp [eL, ofK] at h1 ⊢; exact h1, fun j hj => ?_⟩
      rcases List.mem_cons.mp hj with rfl | hj
      · exact List.mem_cons_self
      · exact List.mem_cons_of_mem _ (h2 j hj)
  obtain ⟨ks, h1, h2⟩ := h1
  refine ⟨ks, h1, fun i hi => ?_⟩
  obtain ⟨p, hp, e⟩ := List.mem_map.mp (h2 i hi)
  unfold look
  cases hf : L.find? fun kv => decide (kv.1 = (.inl i : K)) with
  | some q => exact ⟨_, rfl⟩
  | none =>
    have := List.find?_eq_none.mp hf p hp
    simp [e] at this
theorem sorted_dK {L : List (K × T)} {R : List (List Int)} {d : Int} {b : Nat} (hL : Mem R d b L) (hn : L.length < 64) : ∃ ks : List Int, biT .sorted (.dK L) = some (.lst (eL ks)) ∧ ∀ i ∈ ks, ∃ v, look L (.inl i) = some v := by
  obtain ⟨ks, h1, h2⟩ := keys_dK hL
  refine ⟨ks.mergeSort leI, ?_, fun i hi => h2 i (sortI_mem.mp hi)⟩
  show (if L.length < 64 && (L.map fun kv => ofK kv.1).all isInt then some (T.lst ((L.map fun kv => ofK kv.1).mergeSort leT)) else none) = _
  rw [h1, if_pos (by simp [hn, eL, isInt])]
  congr 2
  unfold eL
  rw [List.map_mergeSort]
  intro a _ b _
  exact (leT_int a b).symm
theorem Mem.len {L : List (K × T)} {d : Int} {b : Nat} (k : c.Ok) (hT : Tale c R) (hL : Mem R d b L) (hn : (L.map (·.1)).Nodup) : L.length ≤ 4 := by
  have h1 : ∃ ks : List Int, L.map (·.1) = ks.map (Sum.inl : Int → K) ∧ ∀ i ∈ ks, 0 ≤ i ∧ i < c.n := by
    clear hn
    induction L with
    | nil => exact ⟨[], rfl, fun _ h => by cases h⟩
    | cons p L ih =>
      obtain ⟨ks, h1, h2⟩ := ih fun q hq => hL q (List.mem_cons_of_mem _ hq)
      obtain ⟨i, a, g, e, ha, hg, hi⟩ := hL p List.mem_cons_self
      subst e
      refine ⟨i :: ks, by simp [h1], fun j hj => ?_⟩
      rcases List.mem_cons.mp hj with rfl | hj
      · exact (hT.gr g (List.mem_of_getElem? hg)).mem _ hi
      · exact h2 j hj
  obtain ⟨ks, h1, h2⟩ := h1
  have h3 : ks.Nodup := by
    rw [h1] at hn
    exact (List.pairwise_map.mp hn).imp fun h e => h (by rw [e])
  have h4 := nodup_len h3 h2
  have h5 := congrArg List.length h1
  simp only [List.length_map] at h5
  have := k.n4
  omega
theorem first_early_ev (k : c.Ok) (hT : Tale c R) (hc : ∀ i j s, Φ "do_cross" [c.e, .int i, .int j] s = some (.bl (crs c i j), s)) (hcl : ∀ i j s, Φ "clearance" [c.e, .int i, .int j] s = some (.int (clr c i j), s)) : evFn Φ d_first_early [c.e, eTl R] s = some (.non, s) := by
  obtain ⟨e1, s1, l1, L, v3, v4, v5, v6, v7, l2, l3, l4, l5⟩ := forL_inv (tg := .tup [.var 3, .var 4]) (body := evSs Φ [(.asg (.var 5) (.ite (.cmp .gt (.var 3) (.cI 0)) (.idx (.var 1) (.bin .sub (.var 3) (.cI 1))) (.tup []))), (.for_ (.var 6) (.bi .sorted (.var 2)) [(.for_ (.var 7) (.var 4) [(.ite (.and (.cmp .nin (.var 7) (.var 5)) (.and (.call "do_cross" [(.var 0), (.var 6), (.var 7)]) (.cmp .lt (.bin .sub (.bin .sub (.var 3) (.idx (.var 2) (.var 6))) (.cI 1)) (.call "clearance" [(.var 0), (.var 6), (.var 7)])))) [(.ret (.tup [(.cS "early"), (.var 3), (.var 6), (.var 7)]))] [])])]), (.for_ (.var 6) (.var 4) [(.set 2 (.var 6) (.var 3))])])
    (fun b env s' => ∃ L v3 v4 v5 v6 v7, env = [.sh c.e, .sh (eTl R), .ow (.dK L), v3, v4, v5, v6, v7] ∧ s' = s ∧ Mem R 0 b L ∧ (L.map (·.1)).Nodup) ((enL 0 R).map fun p => .tup [.int p.1, eR p.2]) 0 [.sh c.e, .sh (eTl R), .ow (.dK []), .un, .un, .un, .un, .un] s ⟨[], _, _, _, _, _, rfl, rfl, (fun p hp => by cases hp), by simp⟩ (by
    rintro b x env s' hb ⟨L, v3, v4, v5, v6, v7, rfl, rfl, g1, g2⟩
    rw [List.getElem?_map, enL_get, Option.map_map, Option.map_eq_some_iff] at hb
    obtain ⟨g, hb, rfl⟩ := hb
    rw [Nat.zero_add] at g1 ⊢
    simp only [Function.comp, Nat.zero_add]
    have hbl := (List.getElem?_eq_some_iff.mp hb).1
    have hll := g1.len k hT g2
    obtain ⟨ah, hah⟩ : ∃ ah : List Int, evE Φ (.ite (.cmp .gt (.var 3) (.cI 0)) (.idx (.var 1) (.bin .sub (.var 3) (.cI 1))) (.tup [])) false [.sh c.e, .sh (eTl R), .ow (.dK L), .sh (.int b), .sh (eR g), v5, v6, v7] s' = some (eR ah, s') := by
      by_cases h0 : b = 0
      · subst h0
        exact ⟨[], ev_iteB (z := false) (s1 := s') rfl (fun z => by cases z) (fun _ => rfl)⟩
      · have h1 : b - 1 < R.length := by omega
        refine ⟨R[b - 1], ev_iteB (z := decide ((0 : Int) < (b : Int))) (s1 := s') rfl (fun _ => ?_) (fun z => by simp at z; omega)⟩
        refine ev_idx (x := eTl R) (y := .int ((b : Int) - 1)) (s1 := s') rfl rfl ?_
        rw [show (b : Int) - 1 = ((b - 1 : Nat) : Int) by omega]
        exact ix_natL (eT_get (List.getElem?_eq_getElem h1))
    obtain ⟨ks, hks, hkm⟩ := sorted_dK g1 (by omega)
    obtain ⟨e1, s1, l1, w6, w7, l2, l3⟩ := forL_all (tg := .var 6) (enc := T.int) (body := evSs Φ [(.for_ (.var 7) (.var 4) [(.ite (.and (.cmp .nin (.var 7) (.var 5)) (.and (.call "do_cross" [(.var 0), (.var 6), (.var 7)]) (.cmp .lt (.bin .sub (.bin .sub (.var 3) (.idx (.var 2) (.var 6))) (.cI 1)) (.call "clearance" [(.var 0), (.var 6), (.var 7)])))) [(.ret (.tup [(.cS "early"), (.var 3), (.var 6), (.var 7)]))] [])])])
      (fun env s'' => ∃ v6 v7, env = [.sh c.e, .sh (eTl R), .ow (.dK L), .sh (.int b), .sh (eR g), .sh (eR ah), v6, v7] ∧ s'' = s') ks (env := [.sh c.e, .sh (eTl R), .ow (.dK L), .sh (.int b), .sh (eR g), .sh (eR ah), v6, v7]) (s := s') ⟨_, _, rfl, rfl⟩ (by
      rintro i env s'' hi ⟨v6, v7, rfl, rfl⟩
      obtain ⟨v, hv⟩ := hkm i hi
      obtain ⟨a, g', rfl, ha, hg', hi'⟩ := g1.look hv
      obtain ⟨e1, s1, l1, w7, l2, l3⟩ := forL_all (tg := .var 7) (enc := T.int) (body := evSs Φ [(.ite (.and (.cmp .nin (.var 7) (.var 5)) (.and (.call "do_cross" [(.var 0), (.var 6), (.var 7)]) (.cmp .lt (.bin .sub (.bin .sub (.var 3) (.idx (.var 2) (.var 6))) (.cI 1)) (.call "clearance" [(.var 0), (.var 6), (.var 7)])))) [(.ret (.tup [(.cS "early"), (.var 3), (.var 6), (.var 7)]))] [])])
        (fun env s' => ∃ v7, env = [.sh c.e, .sh (eTl R), .ow (.dK L), .sh (.int b), .sh (eR g), .sh (eR ah), .sh (.int i), v7] ∧ s' = s'') g (env := [.sh c.e, .sh (eTl R), .ow (.dK L), .sh (.int b), .sh (eR g), .sh (eR ah), .sh (.int i), v7]) (s := s'') ⟨_, rfl, rfl⟩ (by
        rintro j env s' hj ⟨v7, rfl, rfl⟩
        refine ⟨_, _, _, rfl, x_one (x_f ?_ rfl), _, rfl, rfl⟩
        cases h2 : ah.contains j with
        | true => exact ev_and_z (ev_cmp (s1 := s') rfl rfl (nin_eR _ _)) (by rw [h2]; rfl)
        | false =>
          refine ev_and_y (ev_cmp (s1 := s') rfl rfl (nin_eR _ _)) (by rw [h2]; rfl) ?_
          have hw := hT.clr k ha hg' hb hi' hj
          refine ev_bz (ev_andB (p := crs c i j) (ev_call (xs := [c.e, .int i, .int j]) (s1 := s') rfl (hc i j s')) fun _ => ev_cmp (x := .int ((b : Int) - ((a : Int) + 0) - 1)) (y := .int (clr c i j)) (s1 := s') (ev_bin (x := .int ((b : Int) - ((a : Int) + 0))) (s1 := s') (ev_bin (s1 := s') rfl (ev_idx (s1 := s') rfl rfl (ix_dK hv)) rfl) rfl rfl) (ev_call (xs := [c.e, .int i, .int j]) (s1 := s') rfl (hcl i j s')) rfl) ?_
          rw [Bool.and_eq_false_iff]
          right
          simp; omega)
      subst l3
      exact ⟨_, _, _, rfl, x_one (x_for (xs := g.map T.int) (s1 := s1) rfl l1), _, _, l2, rfl⟩)
    subst l3
    subst l2
    obtain ⟨e2, s2, m1, L2, z6, m2, m3, m4, m5⟩ := forL_all (tg := .var 6) (enc := T.int) (body := evSs Φ [(.set 2 (.var 6) (.var 3))])
      (fun env s'' => ∃ L v6, env = [.sh c.e, .sh (eTl R), .ow (.dK L), .sh (.int b), .sh (eR g), .sh (eR ah), v6, w7] ∧ s'' = s1 ∧ Mem R 0 (b + 1) L ∧ (L.map (·.1)).Nodup) g (env := [.sh c.e, .sh (eTl R), .ow (.dK L), .sh (.int b), .sh (eR g), .sh (eR ah), w6, w7]) (s := s1) ⟨L, _, rfl, rfl, g1.mono (by omega), g2⟩ (by
      rintro i env s'' hi ⟨L, v6, rfl, rfl, h1, h2⟩
      have hl := h1.len k hT h2
      refine ⟨_, [.sh c.e, .sh (eTl R), .ow (.dK (put L (.inl i) (.int b))), .sh (.int b), .sh (eR g), .sh (eR ah), .sh (.int i), w7], _, rfl, x_one (x_set (t := .int b) (kt := .int i) (s1 := s'') rfl rfl ?_), _, _, rfl, rfl, ?_, put_nodup h2⟩
      · show (dput (.dK L) (.int i) (.int b)).map _ = _
        simp only [dput, keyK, Option.map_some]
        rw [if_pos (show L.length < line by unfold line; omega)]
        rfl
      · have := h1.put hb hi
        rw [Int.add_zero] at this
        exact this)
    subst m3
    exact ⟨_, _, _, rfl, x_nx (x_asg hah rfl rfl) (x_nx (x_for (xs := ks.map T.int) (s1 := s2) (sq_of (x := .lst (eL ks)) (ev_bi (x := .dK L) (s1 := s2) rfl hks) rfl) l1) (x_one (x_for (xs := g.map T.int) (s1 := s2) rfl m1))), _, _, _, _, _, _, m2, rfl, m4, m5⟩)
  subst l3
  subst l2
  refine fn_rt rfl (x_nx (x_asg (s1 := s1) (t := .dK []) rfl rfl rfl) (x_nx (x_for (xs := (enL 0 R).map fun p => .tup [.int p.1, eR p.2]) (s1 := s1) ?_ l1) (x_rt (x_ret rfl))))
  rw [← numT_map]
  rfl
theorem judge_lamps_ev (h1 : Φ "first_crossed" [c.e, eTl R] s = some (.non, s)) (h2 : Φ "first_early" [c.e, eTl R] s = some (.non, s)) : evFn Φ d_judge_lamps [c.e, eTl R] s = some (.non, s) :=
  fn_rt rfl (x_nx (x_asg (s1 := s) (t := .non) (ev_call (xs := [c.e, eTl R]) (s1 := s) rfl h1) rfl rfl) (x_rt (x_ret (ev_iteB (z := false) (s1 := s) (ev_isN_non rfl) (fun z => by cases z) fun _ => ev_call (xs := [c.e, eTl R]) (s1 := s) rfl h2))))
end
end Gh
set_option linter.all false
set_option maxRecDepth 10000
namespace Gh
section
variable {Φ : String → List T → Src → Option (T × Src)} {c : Cr} {s : Src} {R : List (List Int)}
theorem forK_ev {tg : Tg} {i : Nat} {body : List S} {env env1 : List Slot} {s s1 : Src} {kvs : List (K × T)} (h : env[i]? = some (.ow (.dK kvs))) (h1 : forL (evSs Φ body) tg (kvs.map fun kv => ofK kv.1) (env.set i (.lk (.dK kvs))) s = some (.nx, env1, s1)) (h2 : env1[i]? = some (.lk (.dK kvs))) :
    evS Φ (.forK tg i body) env s = some (.nx, env1.set i (.ow (.dK kvs)), s1) := by
  simp only [evS, h, Option.bind_some, lkS, h1, h2]
def lfoes (c : Cr) (i : Int) : List Int := (iota c.n).filter fun j => decide (j ≠ i) && crs c i j
theorem clrT_isN {i j : Int} {neg : Bool} {a : E} {m : Bool} {env : List Slot} (h : evE Φ a true env s = some (clrT c i j, s)) : evE Φ (.isN true a) m env s = some (.bl (crs c i j), s) := by
  unfold clrT at h
  unfold crs
  cases hf : fnd c.X i j with
  | none => rw [hf] at h; exact ev_isN_non h
  | some v => rw [hf] at h; exact ev_isN h (fun z => by cases z)
theorem int_ne {i j : Int} : cmpT .ne (.int i) (.int j) = some (decide (i ≠ j)) := by
  show (if data (.int i) && data (.int j) then some (!eqT (.int i) (.int j)) else none) = _
  rw [data_int, data_int]
  simp [eqT]
theorem int_eq {i j : Int} : cmpT .eq (.int i) (.int j) = some (decide (i = j)) := by
  show (if data (.int i) && data (.int j) then some (eqT (.int i) (.int j)) else none) = _
  rw [data_int, data_int]
  simp [eqT]
theorem lfoes_ev (k : c.Ok) (hc : ∀ i j s, Φ "_law_clearance" [c.e, .int i, .int j] s = some (clrT c i j, s)) (i : Int) : evFn Φ d__law_foes [c.e, .int i] s = some (.lst (eL (lfoes c i)), s) := by
  refine fn_rt rfl (x_rt (x_ret (ev_compP (enc := T.int) (s1 := s) (iota c.n) (fun j => decide (j ≠ i) && crs c i j) T.int (rng1 rfl (by have := k.n4; omega)) rfl (by rw [iota_len]; have := k.n4; omega) fun j hj => ⟨_, rfl, ?_, fun _ => rfl⟩)))
  exact ev_andB (ev_cmp (s1 := s) rfl rfl int_ne) fun _ => clrT_isN (neg := true) (ev_call (xs := [c.e, .int i, .int j]) (s1 := s) rfl (hc i j s))
theorem lfoes_len (k : c.Ok) (i : Int) : (lfoes c i).length ≤ 4 := by
  have := List.length_filter_le (fun j => decide (j ≠ i) && crs c i j) (iota c.n)
  rw [iota_len] at this
  exact Nat.le_trans this k.n4
theorem mem_lfoes {i j : Int} (h : j ∈ lfoes c i) : crs c i j = true := by
  have := (List.mem_filter.mp h).2
  rw [Bool.and_eq_true] at this
  exact this.2
theorem ddI_idem : ∀ {g : List Int}, g.Nodup → ddI g = g
  | [], _ => rfl
  | x :: xs, h => by
    rw [List.nodup_cons] at h
    rw [ddI, if_neg h.1, ddI_idem h.2]
theorem are_greens_ev (k : c.Ok) {g : List Int} (h : Gr c g) : evFn Φ d__law_are_greens [c.e, eR g] s = some (.bl true, s) := by
  have hl := h.len k
  obtain ⟨e1, s1, l1, v2, l2, l3⟩ := forL_all (tg := .var 2) (enc := T.int) (body := evSs Φ [(.ite (.or (.not (.isi (.var 2) .int)) (.or (.isi (.var 2) .bool) (.not (.ch .le .lt (.cI 0) (.var 2) (.bi .len (.idx (.var 0) (.cI 0))))))) [(.ret (.cB false))] [])])
    (fun env s' => ∃ v2, env = [.sh c.e, .sh (eR g), v2] ∧ s' = s) g (env := [.sh c.e, .sh (eR g), .un]) (s := s) ⟨_, rfl, rfl⟩ (by
    rintro i env s' hi ⟨v2, rfl, rfl⟩
    refine ⟨_, _, _, rfl, x_one (x_fz (z := false || (false || !(decide (0 ≤ i) && decide (i < (c.n : Int))))) (ev_orB (p := false) rfl fun _ => ev_orB (p := false) rfl fun _ => ev_not (ev_ch rfl rfl rfl rfl rfl)) ?_ rfl), _, rfl, rfl⟩
    have := h.mem i hi
    simp; omega)
  subst l3
  subst l2
  have hnd : g.Nodup := h.asc.imp fun h => by omega
  refine fn_rt rfl (x_nx (x_f rfl rfl) (x_nx (x_for (xs := g.map T.int) (s1 := s1) rfl l1) (x_rt (x_ret (ev_cmp (x := eR g) (y := eR g) (s1 := s1) rfl (ev_bi (x := .lst (eL g)) (s1 := s1) (ev_bi (x := eR g) (s1 := s1) rfl ?_) rfl) ?_)))))
  · show (intsOf (eL g)).bind _ = _
    rw [intsOf_eL]
    simp only [Option.bind_some, ddI_idem hnd]
    rw [if_pos (by omega)]
    congr 3
    exact List.mergeSort_of_pairwise (h.asc.imp fun h => by simp; omega)
  · show (if data (eR g) && data (eR g) then some (eqTs (eL g) (eL g)) else none) = _
    rw [data_eR, eqTs_eL]; simp
theorem no_false {α : Type} (xs : List α) : cmpT .inn (.bl false) (.lst (xs.map fun _ => T.bl true)) = some false := by
  have h1 : flats (xs.map fun _ => T.bl true) = true ∧ depths (xs.map fun _ => T.bl true) = 0 := by
    induction xs with
    | nil => exact ⟨rfl, rfl⟩
    | cons x xs ih => simp [flats, flat, depths, depth, ih.1, ih.2]
  have h2 : data (.lst (xs.map fun _ => T.bl true)) = true := by simp [data, flat, depth, h1.1, h1.2]
  show (if data (.bl false) && data _ then some (inT (.bl false) (xs.map fun _ => T.bl true)) else none) = _
  rw [h2]
  have h3 : inT (.bl false) (xs.map fun _ => T.bl true) = false := by
    simp only [inT, List.any_map, List.any_eq_false, Function.comp]
    intro x _
    simp [eqT]
  rw [h3]; rfl
theorem tale_fault_ev (k : c.Ok) (hT : Tale c R) (hc : ∀ i j s, Φ "_law_clearance" [c.e, .int i, .int j] s = some (clrT c i j, s)) (hf : ∀ i s, Φ "_law_foes" [c.e, .int i] s = some (.lst (eL (lfoes c i)), s)) (hg : ∀ g s, Gr c g → Φ "_law_are_greens" [c.e, eR g] s = some (.bl true, s)) :
    evFn Φ d__law_tale_fault [c.e, eT R] s = some (.non, s) := by
  have hRl := hT.len
  obtain ⟨e1, s1, l1, L, v3, v4, v5, v6, v7, v8, v9, l2, f7, f9, l3, l4, l5⟩ := forL_inv (tg := .tup [.var 3, .var 4]) (body := evSs Φ [(.asg (.var 5) (.ite (.cmp .gt (.var 3) (.cI 0)) (.idx (.var 1) (.bin .sub (.var 3) (.cI 1))) (.tup []))), (.asg (.var 6) (.lst [])), (.for_ (.var 7) (.var 4) [(.asg (.var 6) (.bin .add (.var 6) (.comp (.tup [(.var 7), (.var 9)]) (.var 9) (.call "_law_foes" [(.var 0), (.var 7)]) (.and (.cmp .inn (.var 9) (.var 4)) (.cmp .lt (.var 7) (.var 9))) [9])))]), (.ite (.cmp .ne (.var 6) (.lst [])) [(.ret (.bin .add (.tup [(.cS "both"), (.bin .add (.var 3) (.cI 1))]) (.bi .min (.var 6))))] []), (.asg (.var 8) (.lst [])), (.forK (.var 7) 2 [(.for_ (.var 9) (.call "_law_foes" [(.var 0), (.var 7)]) [(.ite (.and (.cmp .inn (.var 9) (.var 4)) (.and (.cmp .nin (.var 9) (.var 5)) (.cmp .le (.bin .sub (.bin .add (.var 3) (.cI 1)) (.idx (.var 2) (.var 7))) (.call "_law_clearance" [(.var 0), (.var 7), (.var 9)])))) [(.app 8 (.tup [(.var 7), (.var 9)]))] [])])]), (.ite (.cmp .ne (.var 8) (.lst [])) [(.ret (.bin .add (.tup [(.cS "early"), (.bin .add (.var 3) (.cI 1))]) (.bi .min (.var 8))))] []), (.upd 2 (.bi .dict (.comp (.tup [(.var 7), (.bin .add (.var 3) (.cI 1))]) (.var 7) (.var 4) (.cB true) [7])))])
    (fun b env s' => ∃ L v3 v4 v5 v6 v7 v8 v9, env = [.sh c.e, .sh (eT R), .ow (.dK L), v3, v4, v5, v6, v7, v8, v9] ∧ freeB (some v7) = true ∧ freeB (some v9) = true ∧ s' = s ∧ Mem R 1 b L ∧ L.length ≤ 4 * b) ((enL 0 R).map fun p => .tup [.int p.1, eR p.2]) 0 [.sh c.e, .sh (eT R), .ow (.dK []), .un, .un, .un, .un, .un, .un, .un] s ⟨[], _, _, _, _, _, _, _, rfl, rfl, rfl, rfl, (fun p hp => by cases hp), by simp⟩ (by
    rintro b x env s' hb ⟨L, v3, v4, v5, v6, v7, v8, v9, rfl, f7, f9, rfl, g1, g2⟩
    rw [List.getElem?_map, enL_get, Option.map_map, Option.map_eq_some_iff] at hb
    obtain ⟨g, hb, rfl⟩ := hb
    rw [Nat.zero_add] at g1 g2 ⊢
    simp only [Function.comp, Nat.zero_add]
    have hbl := (List.getElem?_eq_some_iff.mp hb).1
    have hrow := hT.row k hb
    have hgl := (hT.gr g (List.mem_of_getElem? hb)).len k
    obtain ⟨ah, hah⟩ : ∃ ah : List Int, evE Φ (.ite (.cmp .gt (.var 3) (.cI 0)) (.idx (.var 1) (.bin .sub (.var 3) (.cI 1))) (.tup [])) false [.sh c.e, .sh (eT R), .ow (.dK L), .sh (.int b), .sh (eR g), v5, v6, v7, v8, v9] s' = some (eR ah, s') := by
      by_cases h0 : b = 0
      · subst h0
        exact ⟨[], ev_iteB (z := false) (s1 := s') rfl (fun z => by cases z) (fun _ => rfl)⟩
      · have h1 : b - 1 < R.length := by omega
        refine ⟨R[b - 1], ev_iteB (z := decide ((0 : Int) < (b : Int))) (s1 := s') rfl (fun _ => ?_) (fun z => by simp at z; omega)⟩
        refine ev_idx (x := eT R) (y := .int ((b : Int) - 1)) (s1 := s') rfl rfl ?_
        rw [show (b : Int) - 1 = ((b - 1 : Nat) : Int) by omega]
        exact ix_nat (eT_get (List.getElem?_eq_getElem h1))
    obtain ⟨e1, s1, l1, w7, l2, fw7, l3⟩ := forL_all (tg := .var 7) (enc := T.int) (body := evSs Φ [(.asg (.var 6) (.bin .add (.var 6) (.comp (.tup [(.var 7), (.var 9)]) (.var 9) (.call "_law_foes" [(.var 0), (.var 7)]) (.and (.cmp .inn (.var 9) (.var 4)) (.cmp .lt (.var 7) (.var 9))) [9])))])
      (fun env s'' => ∃ v7, env = [.sh c.e, .sh (eT R), .ow (.dK L), .sh (.int b), .sh (eR g), .sh (eR ah), .ow (.lst []), v7, v8, v9] ∧ freeB (some v7) = true ∧ s'' = s') g (env := [.sh c.e, .sh (eT R), .ow (.dK L), .sh (.int b), .sh (eR g), .sh (eR ah), .ow (.lst []), v7, v8, v9]) (s := s') ⟨_, rfl, f7, rfl⟩ (by
      rintro i env s'' hi ⟨v7, rfl, _, rfl⟩
      have q : evE Φ (.comp (.tup [(.var 7), (.var 9)]) (.var 9) (.call "_law_foes" [(.var 0), (.var 7)]) (.and (.cmp .inn (.var 9) (.var 4)) (.cmp .lt (.var 7) (.var 9))) [9]) true [.sh c.e, .sh (eT R), .ow (.dK L), .sh (.int b), .sh (eR g), .sh (eR ah), .ow (.lst []), .sh (.int i), v8, v9] s'' = some (.lst (((lfoes c i).filter fun j => g.contains j && decide (i < j)).map fun j => .tup [.int i, .int j]), s'') :=
        ev_compP (enc := T.int) (s1 := s'') (lfoes c i) (fun j => g.contains j && decide (i < j)) (fun j => .tup [.int i, .int j]) (sq_of (ev_call (xs := [c.e, .int i]) (s1 := s'') rfl (hf i s'')) rfl) (by simp only [ownFree, List.all_cons, List.all_nil, Bool.and_true]; exact f9) (by have := lfoes_len k i; omega) fun j hj => ⟨_, rfl, ev_andB (ev_cmp (s1 := s'') rfl rfl (in_eR _ _)) fun _ => rfl, fun _ => rfl⟩
      have : ((lfoes c i).filter fun j => g.contains j && decide (i < j)) = [] := by
        rw [List.filter_eq_nil_iff]
        intro j hj hh
        rw [Bool.and_eq_true] at hh
        have := hrow i hi j (by simpa using hh.1)
        rw [mem_lfoes hj] at this
        cases this
      rw [this] at q
      exact ⟨_, _, _, rfl, x_one (x_asg (t := .lst []) (ev_bin (x := .lst []) (y := .lst []) (s1 := s'') rfl q rfl) rfl rfl), _, rfl, rfl, rfl⟩)
    subst l3
    subst l2
    obtain ⟨ks, hk1, hk2⟩ := keys_dK g1
    obtain ⟨e2, s2, m1, z7, z9, m2, fz7, fz9, m3⟩ := forL_all (tg := .var 7) (enc := T.int) (body := evSs Φ [(.for_ (.var 9) (.call "_law_foes" [(.var 0), (.var 7)]) [(.ite (.and (.cmp .inn (.var 9) (.var 4)) (.and (.cmp .nin (.var 9) (.var 5)) (.cmp .le (.bin .sub (.bin .add (.var 3) (.cI 1)) (.idx (.var 2) (.var 7))) (.call "_law_clearance" [(.var 0), (.var 7), (.var 9)])))) [(.app 8 (.tup [(.var 7), (.var 9)]))] [])])])
      (fun env s'' => ∃ v7 v9, env = [.sh c.e, .sh (eT R), .lk (.dK L), .sh (.int b), .sh (eR g), .sh (eR ah), .ow (.lst []), v7, .ow (.lst []), v9] ∧ freeB (some v7) = true ∧ freeB (some v9) = true ∧ s'' = s1) ks (env := [.sh c.e, .sh (eT R), .lk (.dK L), .sh (.int b), .sh (eR g), .sh (eR ah), .ow (.lst []), w7, .ow (.lst []), v9]) (s := s1) ⟨_, _, rfl, fw7, f9, rfl⟩ (by
      rintro i env s'' hi ⟨v7, v9, rfl, fv7, fv9, rfl⟩
      obtain ⟨v, hv⟩ := hk2 i hi
      obtain ⟨a, g', rfl, ha, hg', hi'⟩ := g1.look hv
      obtain ⟨e1, s1, l1, w9, l2, fw9, l3⟩ := forL_all (tg := .var 9) (enc := T.int) (body := evSs Φ [(.ite (.and (.cmp .inn (.var 9) (.var 4)) (.and (.cmp .nin (.var 9) (.var 5)) (.cmp .le (.bin .sub (.bin .add (.var 3) (.cI 1)) (.idx (.var 2) (.var 7))) (.call "_law_clearance" [(.var 0), (.var 7), (.var 9)])))) [(.app 8 (.tup [(.var 7), (.var 9)]))] [])])
        (fun env s' => ∃ v9, env = [.sh c.e, .sh (eT R), .lk (.dK L), .sh (.int b), .sh (eR g), .sh (eR ah), .ow (.lst []), .sh (.int i), .ow (.lst []), v9] ∧ freeB (some v9) = true ∧ s' = s'') (lfoes c i) (env := [.sh c.e, .sh (eT R), .lk (.dK L), .sh (.int b), .sh (eR g), .sh (eR ah), .ow (.lst []), .sh (.int i), .ow (.lst []), v9]) (s := s'') ⟨_, rfl, fv9, rfl⟩ (by
        rintro j env s' hj ⟨v9, rfl, _, rfl⟩
        refine ⟨_, _, _, rfl, x_one (x_f ?_ rfl), _, rfl, rfl, rfl⟩
        cases h1 : g.contains j with
        | false => exact ev_and_z (ev_cmp (s1 := s') rfl rfl (in_eR _ _)) h1
        | true =>
          refine ev_and_y (ev_cmp (s1 := s') rfl rfl (in_eR _ _)) h1 ?_
          cases h2 : ah.contains j with
          | true => exact ev_and_z (ev_cmp (s1 := s') rfl rfl (nin_eR _ _)) (by rw [h2]; rfl)
          | false =>
            refine ev_and_y (ev_cmp (s1 := s') rfl rfl (nin_eR _ _)) (by rw [h2]; rfl) ?_
            have hw := hT.clr k ha hg' hb hi' (j := j) (by simpa using h1)
            have hcr := mem_lfoes hj
            obtain ⟨v, hfv⟩ : ∃ v, fnd c.X i j = some v := by
              unfold crs at hcr
              exact Option.isSome_iff_exists.mp hcr
            have hct : clrT c i j = .int v := by unfold clrT; rw [hfv]
            have hcv : clr c i j = v := by unfold clr; rw [hfv]; rfl
            refine ev_bz (ev_cmp (x := .int ((b : Int) + 1 - ((a : Int) + 1))) (y := .int v) (s1 := s') (ev_bin (s1 := s') rfl (ev_idx (s1 := s') rfl rfl (ix_dK hv)) rfl) (ev_call (xs := [c.e, .int i, .int j]) (s1 := s') rfl (by rw [← hct]; exact hc i j s')) rfl) ?_
            simp; omega)
      subst l3
      exact ⟨_, _, _, rfl, x_one (x_for (sq_of (ev_call (xs := [c.e, .int i]) (s1 := s1) rfl (hf i s1)) rfl) l1), _, _, l2, rfl, fw9, rfl⟩)
    subst m3
    subst m2
    rw [show ks.map T.int = L.map (fun kv : K × T => ofK kv.1) from hk1.symm] at m1
    have q2 : evE Φ (.bi .dict (.comp (.tup [(.var 7), (.bin .add (.var 3) (.cI 1))]) (.var 7) (.var 4) (.cB true) [7])) true [.sh c.e, .sh (eT R), .ow (.dK L), .sh (.int b), .sh (eR g), .sh (eR ah), .ow (.lst []), z7, .ow (.lst []), z9] s2 = some (.dK (merge [] ((g.map fun i => (i, (b : Int) + 1)).map kv)), s2) := by
      refine ev_bi (x := .lst ((g.map fun i => (i, (b : Int) + 1)).map e2)) (s1 := s2) ?_ ?_
      · rw [List.map_map]
        exact ev_compM (enc := T.int) (s1 := s2) g _ rfl (by simp only [ownFree, List.all_cons, List.all_nil, Bool.and_true]; exact fz7) (by omega) fun i hi => ⟨_, rfl, rfl⟩
      · show (pairsOf _).map _ = _
        rw [pairsOf_e2]; rfl
    refine ⟨_, _, _, rfl, x_nx (x_asg hah rfl rfl) (x_nx (x_asg (t := .lst []) (s1 := s2) rfl rfl rfl) (x_nx (x_for (xs := g.map T.int) (s1 := s2) rfl l1) (x_nx (x_f rfl rfl) (x_nx (x_asg (t := .lst []) (s1 := s2) rfl rfl rfl) (x_nx (forK_ev (env1 := [.sh c.e, .sh (eT R), .lk (.dK L), .sh (.int b), .sh (eR g), .sh (eR ah), .ow (.lst []), z7, .ow (.lst []), z9]) rfl m1 rfl) (x_nx (x_f rfl rfl) (x_one (x_upd q2 rfl ?_)))))))), _, _, _, _, _, _, _, _, rfl, fz7, fz9, rfl, g1.merge hb, ?_⟩
    all_goals
      have m1 := merge_len ((g.map fun i => (i, (b : Int) + 1)).map kv) ([] : List (K × T))
      simp only [List.length_map, List.length_nil] at m1
    · unfold line; omega
    · have m2 := merge_len (merge [] ((g.map fun i => (i, (b : Int) + 1)).map kv)) L
      omega)
  subst l3
  subst l2
  have q0 : evE Φ (.comp (.call "_law_are_greens" [(.var 0), (.var 4)]) (.var 4) (.var 1) (.cB true) [4]) true [.sh c.e, .sh (eT R), .un, .un, .un, .un, .un, .un, .un, .un] s1 = some (.lst (R.map fun _ => .bl true), s1) :=
    ev_compM (enc := eR) (s1 := s1) R _ rfl rfl (by omega) fun g hgm => ⟨_, rfl, ev_call (xs := [c.e, eR g]) (s1 := s1) rfl (hg g s1 (hT.gr g hgm))⟩
  refine fn_rt rfl (x_nx (x_fz (z := false || false) (ev_orB (p := false) rfl fun _ => ev_cmp (s1 := s1) rfl q0 (no_false R)) rfl rfl) (x_nx (x_asg (s1 := s1) (t := .dK []) rfl rfl rfl) (x_nx (x_for (xs := (enL 0 R).map fun p => .tup [.int p.1, eR p.2]) (s1 := s1) ?_ l1) (x_rt (x_ret rfl)))))
  rw [← numT_map]
  rfl
end
end Gh
set_option linter.all false
set_option maxRecDepth 10000
namespace Gh
inductive Hap where
  | tick
  | wish (n : Int) (g : List Int)
def Hap.e : Hap → T
  | .tick => .tup [.str "tick"]
  | .wish n g => .tup [.str "wish", .tup [.int n, eR g, .int 1]]
def Ilk.wish (st : Ilk) (n : Int) (g : List Int) : Ilk := ⟨st.time, st.greens, st.ended, n, g, st.time + 1⟩
def rowsH (st : Ilk) : List Hap → List (List Int)
  | [] => []
  | .tick :: r => st.want :: rowsH st.next r
  | .wish n g :: r => rowsH (st.wish n g) r
def endH (st : Ilk) : List Hap → Ilk
  | [] => st
  | .tick :: r => endH st.next r
  | .wish n g :: r => endH (st.wish n g) r
structure TickOk (c : Cr) (st : Ilk) : Prop where
  gr : Gr c st.want
  gl : st.greens.length ≤ 1000
  el : st.ended.length ≤ 1000
  hin : ∀ i ∈ st.want, ∀ j ∈ st.want, crs c i j = false
  hd : ∀ i ∈ st.want, Due c st i (st.time + 1)
def RunOk (c : Cr) (st : Ilk) : List Hap → Prop
  | [] => True
  | .tick :: r => TickOk c st ∧ RunOk c st.next r
  | .wish n g :: r => (Gr c g ∧ 1 ≤ n ∧ st.taken < n) ∧ RunOk c (st.wish n g) r
section
variable {Φ : String → List T → Src → Option (T × Src)} {c : Cr} {s : Src} {R : List (List Int)}
theorem tale_of_ev (hs : List Hap) (hl : hs.length ≤ 100000) {hT : T} (hseq : seqOf hT = some (hs.map Hap.e)) (hn : ∀ s, Φ "new_interlock" [c.e] s = some ((Ilk.mk 0 [] [] 0 [] 0).e, s)) (hx : ∀ (st : Ilk) s, TickOk c st → Φ "next_shown" [c.e, st.e] s = some (.tup [st.next.e, eR st.want], s))
    (hw : ∀ (st : Ilk) n g s, Gr c g → 1 ≤ n → st.taken < n → Φ "wish_heard" [c.e, st.e, .tup [.int n, eR g, .int 1]] s = some ((st.wish n g).e, s)) (hok : RunOk c (Ilk.mk 0 [] [] 0 [] 0) hs) :
    evFn Φ d_tale_of [c.e, hT] s = some (.tup [(endH (Ilk.mk 0 [] [] 0 [] 0) hs).e, eT (rowsH (Ilk.mk 0 [] [] 0 [] 0) hs)], s) := by
  have h : ∀ (hs : List Hap) (st : Ilk) (R : List (List Int)) (v4 v5 : Slot), RunOk c st hs → R.length + hs.length ≤ 100000 → ∃ v4' v5', forL (evSs Φ [(.ite (.cmp .eq (.idx (.var 4) (.cI 0)) (.cS "tick")) [(.asg (.tup [(.var 2), (.var 5)]) (.call "next_shown" [(.var 0), (.var 2)])), (.asg (.var 3) (.tup [(.star (.var 3)), (.var 5)]))] [(.ite (.cmp .eq (.idx (.var 4) (.cI 0)) (.cS "wish")) [(.asg (.var 2) (.call "wish_heard" [(.var 0), (.var 2), (.idx (.var 4) (.cI 1))]))] [(.ite (.cmp .eq (.idx (.var 4) (.cI 0)) (.cS "lamp")) [(.asg (.var 2) (.call "lamp_heard" [(.var 0), (.var 2), (.idx (.var 4) (.cI 1))]))] [(.asg (.var 2) (.call "new_interlock" [(.var 0)]))])])])]) (.var 4) (hs.map Hap.e) [.sh c.e, .sh hT, .sh st.e, .sh (eT R), v4, v5] s =
      some (.nx, [.sh c.e, .sh hT, .sh (endH st hs).e, .sh (eT (R ++ rowsH st hs)), v4', v5'], s) := by
    intro hs
    induction hs with
    | nil => intro st R v4 v5 _ _; exact ⟨v4, v5, by simp [forL, endH, rowsH]⟩
    | cons x r ih =>
      intro st R v4 v5 hok hl
      simp only [List.length_cons] at hl
      cases x with
      | tick =>
        obtain ⟨h1, h2⟩ := hok
        obtain ⟨v4', v5', h3⟩ := ih st.next (R ++ [st.want]) (.sh Hap.tick.e) (.sh (eR st.want)) h2 (by simp; omega)
        refine ⟨v4', v5', ?_⟩
        have q2 : evE Φ (.tup [(.star (.var 3)), (.var 5)]) false [.sh c.e, .sh hT, .sh st.next.e, .sh (eT R), .sh Hap.tick.e, .sh (eR st.want)] s = some (eT (R ++ [st.want]), s) := by
          have := ev_tup (m := false) (es_star (Φ := Φ) (e := .var 3) (env := [.sh c.e, .sh hT, .sh st.next.e, .sh (eT R), .sh Hap.tick.e, .sh (eR st.want)]) (s := s) (s1 := s) (x := eT R) (xs := R.map eR) rfl rfl (es_cons (e := .var 5) (x := eR st.want) (s1 := s) rfl es_nil)) (by simp [line]; omega)
          rw [this]
          simp [eT]
        have q3 : evSs Φ [(.ite (.cmp .eq (.idx (.var 4) (.cI 0)) (.cS "tick")) [(.asg (.tup [(.var 2), (.var 5)]) (.call "next_shown" [(.var 0), (.var 2)])), (.asg (.var 3) (.tup [(.star (.var 3)), (.var 5)]))] [(.ite (.cmp .eq (.idx (.var 4) (.cI 0)) (.cS "wish")) [(.asg (.var 2) (.call "wish_heard" [(.var 0), (.var 2), (.idx (.var 4) (.cI 1))]))] [(.ite (.cmp .eq (.idx (.var 4) (.cI 0)) (.cS "lamp")) [(.asg (.var 2) (.call "lamp_heard" [(.var 0), (.var 2), (.idx (.var 4) (.cI 1))]))] [(.asg (.var 2) (.call "new_interlock" [(.var 0)]))])])])] [.sh c.e, .sh hT, .sh st.e, .sh (eT R), .sh Hap.tick.e, v5] s =
            some (.nx, [.sh c.e, .sh hT, .sh st.next.e, .sh (eT (R ++ [st.want])), .sh Hap.tick.e, .sh (eR st.want)], s) :=
          x_one (x_t rfl (x_nx (x_asgT (t := .tup [st.next.e, eR st.want]) (s1 := s) (ev_call (xs := [c.e, st.e]) (s1 := s) rfl (hx st s h1)) rfl) (x_one (x_asg q2 rfl rfl))))
        have ea : asgTg (.var 4) Hap.tick.e [.sh c.e, .sh hT, .sh st.e, .sh (eT R), v4, v5] = some [.sh c.e, .sh hT, .sh st.e, .sh (eT R), .sh Hap.tick.e, v5] := rfl
        simp only [List.map_cons, forL, ea, q3]
        rw [h3]
        simp [rowsH, endH]
      | wish n g =>
        obtain ⟨⟨w1, w2, w3⟩, h2⟩ := hok
        obtain ⟨v4', v5', h3⟩ := ih (st.wish n g) R (.sh (Hap.wish n g).e) v5 h2 (by omega)
        refine ⟨v4', v5', ?_⟩
        have q3 : evSs Φ [(.ite (.cmp .eq (.idx (.var 4) (.cI 0)) (.cS "tick")) [(.asg (.tup [(.var 2), (.var 5)]) (.call "next_shown" [(.var 0), (.var 2)])), (.asg (.var 3) (.tup [(.star (.var 3)), (.var 5)]))] [(.ite (.cmp .eq (.idx (.var 4) (.cI 0)) (.cS "wish")) [(.asg (.var 2) (.call "wish_heard" [(.var 0), (.var 2), (.idx (.var 4) (.cI 1))]))] [(.ite (.cmp .eq (.idx (.var 4) (.cI 0)) (.cS "lamp")) [(.asg (.var 2) (.call "lamp_heard" [(.var 0), (.var 2), (.idx (.var 4) (.cI 1))]))] [(.asg (.var 2) (.call "new_interlock" [(.var 0)]))])])])] [.sh c.e, .sh hT, .sh st.e, .sh (eT R), .sh (Hap.wish n g).e, v5] s =
            some (.nx, [.sh c.e, .sh hT, .sh (st.wish n g).e, .sh (eT R), .sh (Hap.wish n g).e, v5], s) :=
          x_one (x_f rfl (x_one (x_t rfl (x_one (x_asg (t := (st.wish n g).e) (s1 := s) (ev_call (xs := [c.e, st.e, .tup [.int n, eR g, .int 1]]) (s1 := s) rfl (hw st n g s w1 w2 w3)) rfl rfl)))))
        have ea : asgTg (.var 4) (Hap.wish n g).e [.sh c.e, .sh hT, .sh st.e, .sh (eT R), v4, v5] = some [.sh c.e, .sh hT, .sh st.e, .sh (eT R), .sh (Hap.wish n g).e, v5] := rfl
        simp only [List.map_cons, forL, ea, q3]
        rw [h3]
        simp [rowsH, endH]
  obtain ⟨v4', v5', hh⟩ := h hs (Ilk.mk 0 [] [] 0 [] 0) [] .un .un hok (by simpa using hl)
  have h0 : evS Φ (.asgs [(.var 2), (.var 3)] [(.call "new_interlock" [(.var 0)]), (.tup [])]) [.sh c.e, .sh hT, .un, .un, .un, .un] s = some (.nx, [.sh c.e, .sh hT, .sh (Ilk.mk 0 [] [] 0 [] 0).e, .sh (eT []), .un, .un], s) := by
    have := es_cons (Φ := Φ) (e := .call "new_interlock" [(.var 0)]) (env := [.sh c.e, .sh hT, .un, .un, .un, .un]) (s := s) (s1 := s) (ev_call (xs := [c.e]) (s1 := s) rfl (hn s)) (es_cons (e := .tup []) (x := eT []) (s1 := s) rfl es_nil)
    simp only [evS, this]
    rfl
  refine fn_rt rfl (x_nx h0 (x_nx (x_for (xs := hs.map Hap.e) (s1 := s) (sq_of (x := hT) rfl hseq) hh) (x_rt (x_ret ?_))))
  rfl
/-- how often a movement is green in two ticks behind one another -/
def adj (R : List (List Int)) (i : Int) : Nat := (((R.map fun g => g.contains i).zip ((R.map fun g => g.contains i).drop 1)).filter fun p => p.1 && p.2).length
theorem cars_let_ev (k : c.Ok) (hl : R.length ≤ 1000) : evFn Φ d_cars_let [c.e, eT R] s = some (eR ((iota c.n).map fun i => (adj R i : Int)), s) := by
  have hn4 := k.n4
  obtain ⟨e1, s1, l1, v3, v4, l2, l3⟩ := forL_inv (tg := .var 3) (body := evSs Φ [(.asg (.var 4) (.comp (.cmp .inn (.var 3) (.var 5)) (.var 5) (.var 1) (.cB true) [5])), (.app 2 (.bi .len (.comp (.cI 1) (.tup [(.var 6), (.var 7)]) (.zip [(.var 4), (.sl (.var 4) (.cI 1) .cN)]) (.and (.var 6) (.var 7)) [6, 7])))])
    (fun b env s' => ∃ v3 v4, env = [.sh c.e, .sh (eT R), .ow (.lst (eL ((iota b).map fun i => (adj R i : Int)))), v3, v4, .un, .un, .un] ∧ s' = s) ((iota c.n).map T.int) 0 [.sh c.e, .sh (eT R), .ow (.lst []), .un, .un, .un, .un, .un] s ⟨_, _, rfl, rfl⟩ (by
    rintro b x env s' hb ⟨v3, v4, rfl, rfl⟩
    rw [Nat.zero_add]
    have hbn := iota_get hb
    obtain ⟨hbn, rfl⟩ := hbn
    let ts := R.map fun g => g.contains (b : Int)
    have q1 : evE Φ (.comp (.cmp .inn (.var 3) (.var 5)) (.var 5) (.var 1) (.cB true) [5]) false [.sh c.e, .sh (eT R), .ow (.lst (eL ((iota b).map fun i => (adj R i : Int)))), .sh (.int b), v4, .un, .un, .un] s' = some (.lst (ts.map T.bl), s') := by
      rw [List.map_map]
      exact ev_compM (enc := eR) (s1 := s') R _ rfl rfl (by omega) fun g hg => ⟨_, rfl, ev_cmp (s1 := s') rfl rfl (in_eR _ _)⟩
    have htl : ts.length = R.length := List.length_map _
    have hcut : cut (ts.map T.bl) (some 1) none = (ts.drop 1).map T.bl := by
      unfold cut sIx
      simp only [List.length_map, if_neg (show ¬ (1 : Int) < 0 by decide), List.map_drop]
      rw [List.take_of_length_le (by simp)]
      rcases Nat.eq_zero_or_pos ts.length with h0 | h0
      · rw [List.length_eq_zero_iff.mp h0]; rfl
      · rw [show min (Int.toNat 1) ts.length = 1 by simp; omega]
    have q2 : evE Φ (.bi .len (.comp (.cI 1) (.tup [(.var 6), (.var 7)]) (.zip [(.var 4), (.sl (.var 4) (.cI 1) .cN)]) (.and (.var 6) (.var 7)) [6, 7])) false [.sh c.e, .sh (eT R), .ow (.lst (eL ((iota b).map fun i => (adj R i : Int)))), .sh (.int b), .ow (.lst (ts.map T.bl)), .un, .un, .un] s' = some (.int (adj R b), s') := by
      refine ev_bi (x := .lst (((ts.zip (ts.drop 1)).filter fun p => p.1 && p.2).map fun _ => .int 1)) (s1 := s') ?_ ?_
      · refine ev_compP (enc := fun p : Bool × Bool => .tup [.bl p.1, .bl p.2]) (s1 := s') (ts.zip (ts.drop 1)) (fun p => p.1 && p.2) (fun _ => .int 1) ?_ rfl (by simp; omega) fun p hp => ⟨_, rfl, ev_andB rfl fun _ => rfl, fun _ => rfl⟩
        have e : evE Φ (.zip [(.var 4), (.sl (.var 4) (.cI 1) .cN)]) true [.sh c.e, .sh (eT R), .ow (.lst (eL ((iota b).map fun i => (adj R i : Int)))), .sh (.int b), .ow (.lst (ts.map T.bl)), .un, .un, .un] s' = some (.lst (zipT [ts.map T.bl, (ts.drop 1).map T.bl]), s') := by
          rw [← hcut]; rfl
        exact sq_of e (by rw [zipC_map]; rfl)
      · show some (T.int _) = _
        rw [List.length_map]
        rfl
    have hsucc : eL ((iota (b + 1)).map fun i => (adj R i : Int)) = eL ((iota b).map fun i => (adj R i : Int)) ++ [.int (adj R b)] := by rw [iota_succ]; simp [eL]
    rw [hsucc]
    refine ⟨_, _, _, rfl, x_nx (x_asg q1 rfl rfl) (x_one (x_app q2 rfl ?_)), _, _, rfl, rfl⟩
    simp [eL, line, iota_len]; omega)
  subst l3
  subst l2
  refine fn_rt rfl (x_nx (x_asg (s1 := s1) (t := .lst []) rfl rfl rfl) (x_nx (x_for (xs := (iota c.n).map T.int) (s1 := s1) (rng1 rfl (by omega)) l1) (x_rt (x_ret (ev_bi (s1 := s1) rfl ?_)))))
  simp only [List.length_map, iota_len, Nat.zero_add]
  rfl
def wishL (R : List (List Int)) : List (Int × List Int) := (enL 0 R).map fun p => ((p.1 : Int) + 1, p.2)
theorem wishes_ev (hl : R.length ≤ 1000) : evFn Φ d_wishes_for [eT R, .int 0] s = some (.tup ((wishL R).map fun p => .tup [.int p.1, eR p.2, .int 1]), s) := by
  refine fn_rt rfl (x_rt (x_ret (ev_bi (x := .lst ((wishL R).map fun p => .tup [.int p.1, eR p.2, .int 1])) (s1 := s) ?_ rfl)))
  have h : evE Φ (.enum (.var 0)) true [.sh (eT R), .sh (.int 0), .un, .un] s = some (.lst (numT 0 (R.map eR)), s) := rfl
  rw [numT_map] at h
  have := ev_compM (Φ := Φ) (m := true) (tg := .tup [.var 2, .var 3]) (elt := .tup [(.bin .add (.bin .add (.var 1) (.var 2)) (.cI 1)), (.var 3), (.cI 1)]) (own := [2, 3]) (enc := fun p : Nat × List Int => .tup [.int p.1, eR p.2]) (s1 := s) (enL 0 R) (fun p => .tup [.int (0 + (p.1 : Int) + 1), eR p.2, .int 1]) (sq_of h rfl) rfl (by rw [enL_len]; omega) fun p hp => ⟨_, rfl, rfl⟩
  rw [show (wishL R).map (fun p => T.tup [.int p.1, eR p.2, .int 1]) = (enL 0 R).map (fun p => T.tup [.int (0 + (p.1 : Int) + 1), eR p.2, .int 1]) by simp [wishL]]
  exact this
end
end Gh
set_option linter.all false
set_option maxRecDepth 10000
namespace Gh
/-! ### stages -/
def freeS (c : Cr) : Nat → List (List Int)
  | 0 => [[]]
  | k + 1 => freeS c k ++ ((freeS c k).filter fun one => !(one.any fun j => crs c k j)).map fun one => one ++ [(k : Int)]
def full (c : Cr) (one : List Int) : Bool := ((iota c.n).filter fun i => !one.contains i).all fun i => one.any fun j => crs c i j
def stg (c : Cr) : List (List Int) := ((freeS c c.n).filter (full c)).mergeSort leR
structure Free (c : Cr) (k : Nat) (g : List Int) : Prop where
  asc : g.Pairwise (· < ·)
  mem : ∀ i ∈ g, 0 ≤ i ∧ i < (k : Int)
  ind : ∀ i ∈ g, ∀ j ∈ g, crs c i j = false
theorem freeS_mem {c : Cr} (k : c.Ok) : ∀ (n : Nat) (g : List Int), g ∈ freeS c n → Free c n g
  | 0, g, h => by
    simp [freeS] at h
    subst h
    exact ⟨.nil, (fun _ h => by cases h), (fun _ h => by cases h)⟩
  | n + 1, g, h => by
    rcases List.mem_append.mp h with h | h
    · have f := freeS_mem k n g h
      exact ⟨f.asc, fun i hi => by have := f.mem i hi; omega, f.ind⟩
    · obtain ⟨one, h1, rfl⟩ := List.mem_map.mp h
      obtain ⟨h2, h3⟩ := List.mem_filter.mp h1
      have f := freeS_mem k n one h2
      have h4 : ∀ j ∈ one, crs c n j = false := by
        intro j hj
        simp only [Bool.not_eq_true', List.any_eq_false] at h3
        simpa using h3 j hj
      refine ⟨?_, fun i hi => ?_, fun i hi j hj => ?_⟩
      · rw [List.pairwise_append]
        exact ⟨f.asc, List.pairwise_singleton _ _, fun a ha b hb => by simp at hb; subst hb; exact (f.mem a ha).2⟩
      · rcases List.mem_append.mp hi with hi | hi
        · have := f.mem i hi; omega
        · simp at hi; omega
      · rcases List.mem_append.mp hi with hi | hi <;> rcases List.mem_append.mp hj with hj | hj
        · exact f.ind i hi j hj
        · simp at hj; subst hj; rw [crs_comm]; exact h4 i hi
        · simp at hi; subst hi; exact h4 j hj
        · simp at hi hj; subst hi; subst hj; exact k.self _
theorem freeS_len {c : Cr} : ∀ n : Nat, (freeS c n).length ≤ 2 ^ n
  | 0 => by simp [freeS]
  | n + 1 => by
    have h1 := freeS_len (c := c) n
    have h2 := List.length_filter_le (fun one : List Int => !(one.any fun j => crs c n j)) (freeS c n)
    simp only [freeS, List.length_append, List.length_map]
    rw [Nat.pow_succ]; omega
theorem freeS_len' {c : Cr} (k : c.Ok) {n : Nat} (h : n ≤ c.n) : (freeS c n).length ≤ 16 := by
  have h1 := freeS_len (c := c) n
  have h2 : 2 ^ n ≤ 2 ^ 4 := Nat.pow_le_pow_right (by decide) (by have := k.n4; omega)
  omega
theorem stg_mem {c : Cr} (k : c.Ok) {g : List Int} (h : g ∈ stg c) : Free c c.n g ∧ g ≠ [] := by
  have h1 := (List.mergeSort_perm _ leR).mem_iff.mp h
  obtain ⟨h2, h3⟩ := List.mem_filter.mp h1
  refine ⟨freeS_mem k _ _ h2, fun e => ?_⟩
  subst e
  have h0 : (0 : Int) ∈ iota c.n := mem_iota.mpr ⟨by omega, by have := k.n1; omega⟩
  simp only [full, List.all_eq_true] at h3
  have := h3 0 (List.mem_filter.mpr ⟨h0, rfl⟩)
  cases this
theorem stg_len {c : Cr} (k : c.Ok) : (stg c).length ≤ 16 := by
  unfold stg
  rw [List.length_mergeSort]
  exact Nat.le_trans (List.length_filter_le _ _) (freeS_len' k (Nat.le_refl _))
theorem Free.len {c : Cr} {g : List Int} {n : Nat} (f : Free c n g) : g.length ≤ n := asc_len f.asc f.mem
section
variable {Φ : String → List T → Src → Option (T × Src)} {c : Cr} {s : Src}
theorem cross_any (k : c.Ok) (hc : ∀ i j s, Φ "do_cross" [c.e, .int i, .int j] s = some (.bl (crs c i j), s)) (x : Int) {one : List Int} (hl : one.length ≤ 1000) {es : List E} {tg : Nat} {env : List Slot} {it : E} {m : Bool} (h0 : (evE Φ it true env s).bind seqS = some (one.map T.int, s)) (hf : ownFree env [tg] = true)
    (he : ∀ j, ∃ env1, asgTg (.var tg) (.int j) (wipe env [tg]) = some env1 ∧ evEs Φ es env1 s = some ([c.e, .int x, .int j], s)) :
    evE Φ (.bi .any (.comp (.call "do_cross" es) (.var tg) it (.cB true) [tg])) m env s = some (.bl (one.any fun j => crs c x j), s) :=
  ev_bi (s1 := s) (ev_compM (enc := T.int) (s1 := s) one (fun j => .bl (crs c x j)) h0 hf (by omega) fun j hj => by
    obtain ⟨env1, e1, e2⟩ := he j
    exact ⟨env1, e1, ev_call e2 (hc x j s)⟩) (any_map _ _)
theorem free_sets_ev (k : c.Ok) (hc : ∀ i j s, Φ "do_cross" [c.e, .int i, .int j] s = some (.bl (crs c i j), s)) : evFn Φ d_free_sets [c.e] s = some (.lst ((freeS c c.n).map eR), s) := by
  have hn4 := k.n4
  obtain ⟨e1, s1, l1, v2, l2, l3⟩ := forL_inv (tg := .var 2) (body := evSs Φ [(.asg (.var 1) (.bin .add (.var 1) (.comp (.tup [(.star (.var 3)), (.var 2)]) (.var 3) (.var 1) (.not (.bi .any (.comp (.call "do_cross" [(.var 0), (.var 2), (.var 4)]) (.var 4) (.var 3) (.cB true) [4]))) [3])))])
    (fun b env s' => ∃ v2, env = [.sh c.e, .ow (.lst ((freeS c b).map eR)), v2, .un, .un] ∧ s' = s) ((iota c.n).map T.int) 0 [.sh c.e, .ow (.lst [.tup []]), .un, .un, .un] s ⟨_, rfl, rfl⟩ (by
    rintro b x env s' hb ⟨v2, rfl, rfl⟩
    obtain ⟨hbn, rfl⟩ := iota_get hb
    rw [Nat.zero_add]
    have hfl := freeS_len' k (Nat.le_of_lt hbn)
    have hlt := List.length_filter_le (fun one : List Int => !(one.any fun j => crs c b j)) (freeS c b)
    have q : evE Φ (.comp (.tup [(.star (.var 3)), (.var 2)]) (.var 3) (.var 1) (.not (.bi .any (.comp (.call "do_cross" [(.var 0), (.var 2), (.var 4)]) (.var 4) (.var 3) (.cB true) [4]))) [3]) true [.sh c.e, .ow (.lst ((freeS c b).map eR)), .sh (.int b), .un, .un] s' =
        some (.lst (((freeS c b).filter fun one => !(one.any fun j => crs c b j)).map fun one => eR (one ++ [(b : Int)])), s') := by
      refine ev_compP (enc := eR) (s1 := s') (freeS c b) _ _ rfl rfl (by omega) fun one ho => ⟨_, rfl, ev_not (cross_any k hc b (one := one) (by have := (freeS_mem k b one ho).len; omega) rfl rfl fun j => ⟨_, rfl, rfl⟩), fun _ => ?_⟩
      have := ev_tup (m := false) (es_star (Φ := Φ) (e := .var 3) (env := [.sh c.e, .ow (.lst ((freeS c b).map eR)), .sh (.int b), .sh (eR one), .un]) (s := s') (s1 := s') (x := eR one) (xs := eL one) rfl rfl (es_cons (e := .var 2) (x := .int b) (s1 := s') rfl es_nil)) (by have := (freeS_mem k b one ho).len; simp [line, eL]; omega)
      rw [show eR (one ++ [(b : Int)]) = .tup (eL one ++ [.int b]) by simp [eR, eL]]
      exact this
    have q2 : evE Φ (.bin .add (.var 1) (.comp (.tup [(.star (.var 3)), (.var 2)]) (.var 3) (.var 1) (.not (.bi .any (.comp (.call "do_cross" [(.var 0), (.var 2), (.var 4)]) (.var 4) (.var 3) (.cB true) [4]))) [3])) false [.sh c.e, .ow (.lst ((freeS c b).map eR)), .sh (.int b), .un, .un] s' = some (.lst ((freeS c (b + 1)).map eR), s') := by
      refine ev_bin (x := .lst ((freeS c b).map eR)) (s1 := s') rfl q ?_
      show (if _ ≤ line then _ else _) = _
      rw [if_pos (by rw [List.length_map, List.length_map]; unfold line; omega)]
      simp [freeS, Function.comp_def]
    exact ⟨_, _, _, rfl, x_one (x_asg q2 rfl rfl), _, rfl, rfl⟩)
  subst l3
  subst l2
  simp only [List.length_map, iota_len, Nat.zero_add] at l1
  exact fn_rt rfl (x_nx (x_asg (s1 := s1) (t := .lst [.tup []]) rfl rfl rfl) (x_nx (x_for (xs := (iota c.n).map T.int) (s1 := s1) (rng1 rfl (by omega)) l1) (x_nx (x_share rfl rfl) (x_rt (x_ret rfl)))))
theorem is_full_ev (k : c.Ok) (hc : ∀ i j s, Φ "do_cross" [c.e, .int i, .int j] s = some (.bl (crs c i j), s)) {one : List Int} (hl : one.length ≤ 1000) : evFn Φ d_is_full [c.e, eR one] s = some (.bl (full c one), s) := by
  have hn4 := k.n4
  have hlt := List.length_filter_le (fun i => !one.contains i) (iota c.n)
  rw [iota_len] at hlt
  have q1 : evE Φ (.comp (.var 3) (.var 3) (.range [(.bi .len (.idx (.var 0) (.cI 0)))]) (.cmp .nin (.var 3) (.var 1)) [3]) false [.sh c.e, .sh (eR one), .un, .un, .un] s = some (.lst (((iota c.n).filter fun i => !one.contains i).map T.int), s) :=
    ev_compP (enc := T.int) (s1 := s) (iota c.n) _ T.int (rng1 rfl (by omega)) rfl (by rw [iota_len]; omega) fun i hi => ⟨_, rfl, ev_cmp (s1 := s) rfl rfl (nin_eR _ _), fun _ => rfl⟩
  refine fn_rt rfl (x_nx (x_asg q1 rfl rfl) (x_rt (x_ret (ev_bi (s1 := s) (ev_compM (enc := T.int) (s1 := s) ((iota c.n).filter fun i => !one.contains i) (fun i => .bl (one.any fun j => crs c i j)) rfl rfl (by omega) fun i hi => ⟨_, rfl, cross_any k hc i hl rfl rfl fun j => ⟨_, rfl, rfl⟩⟩) (all_map _ _)))))
theorem stages_ev (k : c.Ok) (hf : ∀ s, Φ "free_sets" [c.e] s = some (.lst ((freeS c c.n).map eR), s)) (hu : ∀ one s, one.length ≤ 1000 → Φ "is_full" [c.e, eR one] s = some (.bl (full c one), s)) : evFn Φ d_stages [c.e] s = some (.tup ((stg c).map eR), s) := by
  have hfl := freeS_len' k (Nat.le_refl _)
  refine fn_rt rfl (x_rt (x_ret (ev_bi (x := .lst ((stg c).map eR)) (s1 := s) (ev_bi (x := .lst (((freeS c c.n).filter (full c)).map eR)) (s1 := s) ?_ (sort_rows _ fun a ha => ?_)) rfl)))
  · exact ev_compP (enc := eR) (s1 := s) (freeS c c.n) (full c) eR (sq_of (ev_call (xs := [c.e]) (s1 := s) rfl (hf s)) rfl) rfl (by omega) fun one ho => ⟨_, rfl, ev_call (xs := [c.e, eR one]) (s1 := s) rfl (hu one s (by have := (freeS_mem k _ _ ho).len; have := k.n4; omega)), fun _ => rfl⟩
  · exact (stg_mem k (show a ∈ stg c from (List.mergeSort_perm _ leR).mem_iff.mpr ha)).2
end
end Gh
set_option linter.all false
set_option maxRecDepth 10000
namespace Gh
section
variable {Φ : String → List T → Src → Option (T × Src)} {c : Cr} {s : Src}
theorem crosses_one_ev (k : c.Ok) (hc : ∀ i j s, Φ "_law_clearance" [c.e, .int i, .int j] s = some (clrT c i j, s)) {lot : List Int} (hl : lot.length ≤ 1000) (i : Int) :
    evFn Φ d__law_crosses_one [c.e, .lst (eL lot), .int i] s = some (.bl (lot.any fun j => crs c i j), s) := by
  refine fn_rt rfl (x_rt (x_ret (ev_bi (x := .lst ((lot.filter fun j => decide (j ≠ i)).map fun j => .bl (crs c i j))) (s1 := s) (ev_compP (enc := T.int) (s1 := s) lot _ _ rfl rfl (by omega) fun j hj => ⟨_, rfl, ev_cmp (s1 := s) rfl rfl int_ne, fun _ => clrT_isN (neg := true) (ev_call (xs := [c.e, .int i, .int j]) (s1 := s) rfl (hc i j s))⟩) ?_)))
  rw [any_map]
  congr 2
  rw [Bool.eq_iff_iff, List.any_eq_true, List.any_eq_true]
  constructor
  · rintro ⟨j, h1, h2⟩; exact ⟨j, (List.mem_filter.mp h1).1, h2⟩
  · rintro ⟨j, h1, h2⟩
    refine ⟨j, List.mem_filter.mpr ⟨h1, ?_⟩, h2⟩
    rw [decide_eq_true_eq]
    rintro rfl
    rw [k.self] at h2
    cases h2
def lotT (one : List Int) : T := .lst (eL one)
theorem law_stages_ev (k : c.Ok) (hc : ∀ lot i s, lot.length ≤ 1000 → Φ "_law_crosses_one" [c.e, .lst (eL lot), .int i] s = some (.bl (lot.any fun j => crs c i j), s)) : evFn Φ d__law_stages [c.e] s = some (.lst ((stg c).map eR), s) := by
  have hn4 := k.n4
  have h0 : evS Φ (.asgs [(.var 1), (.var 2)] [(.bi .len (.idx (.var 0) (.cI 0))), (.lst [(.lst [])])]) [.sh c.e, .un, .un, .un, .un, .un] s = some (.nx, [.sh c.e, .sh (.int c.n), .ow (.lst [lotT []]), .un, .un, .un], s) := rfl
  obtain ⟨e1, s1, l1, v3, l2, l3⟩ := forL_inv (tg := .var 3) (body := evSs Φ [(.asg (.var 2) (.bin .add (.var 2) (.comp (.bin .add (.var 5) (.lst [(.var 3)])) (.var 5) (.var 2) (.not (.call "_law_crosses_one" [(.var 0), (.var 5), (.var 3)])) [5])))])
    (fun b env s' => ∃ v3, env = [.sh c.e, .sh (.int c.n), .ow (.lst ((freeS c b).map lotT)), v3, .un, .un] ∧ freeB (some v3) = true ∧ s' = s) ((iota c.n).map T.int) 0 [.sh c.e, .sh (.int c.n), .ow (.lst [lotT []]), .un, .un, .un] s ⟨_, rfl, rfl, rfl⟩ (by
    rintro b x env s' hb ⟨v3, rfl, _, rfl⟩
    obtain ⟨hbn, rfl⟩ := iota_get hb
    rw [Nat.zero_add]
    have hfl := freeS_len' k (Nat.le_of_lt hbn)
    have hlt := List.length_filter_le (fun one : List Int => !(one.any fun j => crs c b j)) (freeS c b)
    have q : evE Φ (.comp (.bin .add (.var 5) (.lst [(.var 3)])) (.var 5) (.var 2) (.not (.call "_law_crosses_one" [(.var 0), (.var 5), (.var 3)])) [5]) true [.sh c.e, .sh (.int c.n), .ow (.lst ((freeS c b).map lotT)), .sh (.int b), .un, .un] s' =
        some (.lst (((freeS c b).filter fun one => !(one.any fun j => crs c b j)).map fun one => lotT (one ++ [(b : Int)])), s') := by
      refine ev_compP (enc := lotT) (s1 := s') (freeS c b) _ _ rfl rfl (by omega) fun one ho => ?_
      have hol := (freeS_mem k b one ho).len
      refine ⟨_, rfl, ev_not (ev_call (xs := [c.e, .lst (eL one), .int b]) (s1 := s') rfl (hc one b s' (by omega))), fun _ => ?_⟩
      refine ev_bin (x := lotT one) (y := .lst [.int b]) (s1 := s') rfl rfl ?_
      show (if _ ≤ line then _ else _) = _
      rw [if_pos (by simp [eL, line]; omega)]
      simp [lotT, eL]
    have q2 : evE Φ (.bin .add (.var 2) (.comp (.bin .add (.var 5) (.lst [(.var 3)])) (.var 5) (.var 2) (.not (.call "_law_crosses_one" [(.var 0), (.var 5), (.var 3)])) [5])) false [.sh c.e, .sh (.int c.n), .ow (.lst ((freeS c b).map lotT)), .sh (.int b), .un, .un] s' = some (.lst ((freeS c (b + 1)).map lotT), s') := by
      refine ev_bin (x := .lst ((freeS c b).map lotT)) (s1 := s') rfl q ?_
      show (if _ ≤ line then _ else _) = _
      rw [if_pos (by rw [List.length_map, List.length_map]; unfold line; omega)]
      simp [freeS, Function.comp_def]
    exact ⟨_, _, _, rfl, x_one (x_asg q2 rfl rfl), _, rfl, rfl, rfl⟩)
  obtain ⟨l3, l4⟩ := l3
  subst l4
  subst l2
  simp only [List.length_map, iota_len, Nat.zero_add] at l1
  have hfl := freeS_len' k (Nat.le_refl c.n)
  obtain ⟨e2, s2, m1, w5, m2, m3⟩ := forL_inv (tg := .var 5) (body := evSs Φ [(.ite (.bi .all (.comp (.or (.cmp .inn (.var 3) (.var 5)) (.call "_law_crosses_one" [(.var 0), (.var 5), (.var 3)])) (.var 3) (.range [(.var 1)]) (.cB true) [3])) [(.app 4 (.bi .tuple (.var 5)))] [])])
    (fun b env s' => ∃ v5, env = [.sh c.e, .sh (.int c.n), .sh (.lst ((freeS c c.n).map lotT)), v3, .ow (.lst ((((freeS c c.n).take b).filter (full c)).map eR)), v5] ∧ s' = s1) ((freeS c c.n).map lotT) 0 [.sh c.e, .sh (.int c.n), .sh (.lst ((freeS c c.n).map lotT)), v3, .ow (.lst []), .un] s1 ⟨_, rfl, rfl⟩ (by
    rintro b x env s' hb ⟨v5, rfl, rfl⟩
    rw [List.getElem?_map, Option.map_eq_some_iff] at hb
    obtain ⟨one, hb, rfl⟩ := hb
    rw [Nat.zero_add]
    have ho := List.mem_of_getElem? hb
    have hol := (freeS_mem k _ one ho).len
    have htk : (freeS c c.n).take (b + 1) = (freeS c c.n).take b ++ [one] := by rw [List.take_succ, hb]; rfl
    have hfull : ((iota c.n).all fun i => one.contains i || one.any fun j => crs c i j) = full c one := by
      unfold full
      rw [Bool.eq_iff_iff]
      simp only [List.all_eq_true, List.mem_filter, Bool.or_eq_true, Bool.not_eq_true', and_imp]
      constructor
      · intro h i hi hc; exact (h i hi).resolve_left (by rw [hc]; simp)
      · intro h i hi
        cases hc : one.contains i with
        | true => exact .inl rfl
        | false => exact .inr (h i hi hc)
    have q : evE Φ (.bi .all (.comp (.or (.cmp .inn (.var 3) (.var 5)) (.call "_law_crosses_one" [(.var 0), (.var 5), (.var 3)])) (.var 3) (.range [(.var 1)]) (.cB true) [3])) true [.sh c.e, .sh (.int c.n), .sh (.lst ((freeS c c.n).map lotT)), v3, .ow (.lst ((((freeS c c.n).take b).filter (full c)).map eR)), .sh (lotT one)] s' = some (.bl (full c one), s') := by
      rw [← hfull]
      exact ev_bi (s1 := s') (ev_compM (enc := T.int) (s1 := s') (iota c.n) _ (rng1 rfl (by omega)) (by simp only [ownFree, List.all_cons, List.all_nil, Bool.and_true]; exact l3) (by rw [iota_len]; omega) fun i hi => ⟨_, rfl, ev_orB (ev_cmp (s1 := s') rfl rfl (in_eLl _ _)) fun _ => ev_call (xs := [c.e, .lst (eL one), .int i]) (s1 := s') rfl (hc one i s' (by omega))⟩) (all_map _ _)
    have hft := List.length_filter_le (full c) ((freeS c c.n).take b)
    rw [List.length_take] at hft
    rw [htk, List.filter_append, List.map_append]
    cases hfu : full c one with
    | true =>
      rw [show [one].filter (full c) = [one] by simp [hfu]]
      rw [hfu] at q
      exact ⟨_, _, _, rfl, x_one (x_t q (x_one (x_app (t := eR one) (s1 := s') rfl rfl (by rw [List.length_map]; unfold line; omega)))), _, rfl, rfl⟩
    | false =>
      rw [show [one].filter (full c) = [] by simp [hfu]]
      rw [hfu] at q
      exact ⟨_, _, _, rfl, x_one (x_f q rfl), _, (by rw [List.map_nil, List.append_nil]; rfl), rfl⟩)
  subst m3
  subst m2
  simp only [List.length_map, Nat.zero_add, List.take_length] at m1
  refine fn_rt rfl (x_nx h0 (x_nx (x_for (xs := (iota c.n).map T.int) (s1 := s2) (rng1 rfl (by omega)) l1) (x_nx (x_asg (t := .lst []) (s1 := s2) rfl rfl rfl) (x_nx (x_share rfl rfl) (x_nx (x_for (xs := (freeS c c.n).map lotT) (s1 := s2) rfl m1) (x_rt (x_ret (ev_bi (x := .lst (((freeS c c.n).filter (full c)).map eR)) (s1 := s2) rfl ?_))))))))
  exact sort_rows _ fun a ha => (stg_mem k (show a ∈ stg c from (List.mergeSort_perm _ leR).mem_iff.mpr ha)).2
/-- a stage by its number -/
def st_ (c : Cr) (i : Int) : List Int := (stg c).getD i.toNat []
def InS (c : Cr) (i : Int) : Prop := 0 ≤ i ∧ i < ((stg c).length : Int)
theorem InS.get {i : Int} (h : InS c i) : (stg c)[i.toNat]? = some (st_ c i) := by
  have : i.toNat < (stg c).length := by have := h.1; have := h.2; omega
  unfold st_
  rw [List.getD_eq_getElem?_getD, List.getElem?_eq_getElem this]
  rfl
theorem InS.mem {i : Int} (h : InS c i) : st_ c i ∈ stg c := List.mem_of_getElem? h.get
theorem InS.ix {i : Int} (h : InS c i) : idxT (.tup ((stg c).map eR)) (.int i) = some (eR (st_ c i)) := by
  have e : i = (i.toNat : Int) := by have := h.1; omega
  rw [e]
  refine ix_nat ?_
  rw [List.getElem?_map, ← e, h.get]; rfl
theorem InS.ixL {i : Int} (h : InS c i) : idxT (.lst ((stg c).map eR)) (.int i) = some (eR (st_ c i)) := by
  have e : i = (i.toNat : Int) := by have := h.1; omega
  rw [e]
  refine ix_natL ?_
  rw [List.getElem?_map, ← e, h.get]; rfl
/-- a stage's clearing -/
def clg (c : Cr) (g : List Int) : Int := mx 0 (g.flatMap fun i => (iota c.n).map fun j => clr c i j)
theorem clg_ge (g : List Int) : 0 ≤ clg c g := (mx_ge 0 _).1
theorem clg_clr {g : List Int} (k : c.Ok) {i j v : Int} (hi : i ∈ g) (h : fnd c.X i j = some v) : v ≤ clg c g := by
  have hc := k.crs_n (crs_of h)
  refine (mx_ge 0 _).2 v (List.mem_flatMap.mpr ⟨i, hi, List.mem_map.mpr ⟨j, mem_iota.mpr ⟨hc.2.2.1, hc.2.2.2⟩, ?_⟩⟩)
  unfold clr; rw [h]; rfl
theorem flat_len {α : Type} (g : List Int) (f : Int → List α) (n : Nat) (h : ∀ i, (f i).length = n) : (g.flatMap f).length = g.length * n := by
  induction g with
  | nil => simp
  | cons x xs ih => rw [List.flatMap_cons, List.length_append, h, ih, List.length_cons, Nat.succ_mul]; omega
theorem clear_ticks_ev (k : c.Ok) (hc : ∀ i j s, Φ "clearance" [c.e, .int i, .int j] s = some (.int (clr c i j), s)) (hs : ∀ s, Φ "stages" [c.e] s = some (.tup ((stg c).map eR), s)) {i : Int} (hi : InS c i) : evFn Φ d_clear_ticks [c.e, .int i] s = some (.int (clg c (st_ c i)), s) := by
  have hn4 := k.n4
  obtain ⟨hf, hne⟩ := stg_mem k hi.mem
  have hgl := hf.len
  have hfl : ((st_ c i).flatMap fun i => (iota c.n).map fun j => clr c i j).length = (st_ c i).length * c.n := flat_len _ _ _ fun _ => by simp [iota_len]
  have hr : evE Φ (.range [(.bi .len (.idx (.var 0) (.cI 0)))]) false [.sh c.e, .sh (.int i), .un, .un, .un] s = some (.rng 0 c.n, s) := by
    have : rangeT [.int (c.n : Int)] = some (.rng 0 c.n) := by simp only [rangeT]; rw [if_pos (by omega)]
    simp only [evE, evTs]
    show (rangeT [.int (c.n : Int)]).map _ = _
    rw [this]; rfl
  have q : evE Φ (.comp2 (.call "clearance" [(.var 0), (.var 3), (.var 4)]) (.var 3) (.idx (.call "stages" [(.var 0)]) (.var 1)) (.var 4) (.var 2) [3, 4]) true [.sh c.e, .sh (.int i), .sh (.rng 0 c.n), .un, .un] s =
      some (.lst ((st_ c i).flatMap fun i => (iota c.n).map fun j => .int (clr c i j)), s) := by
    refine ev_comp2 (enc := T.int) (s1 := s) (st_ c i) _ (sq_of (x := eR (st_ c i)) (ev_idx (s1 := s) (ev_call (xs := [c.e]) (s1 := s) rfl (hs s)) rfl hi.ix) rfl) rfl (fun x hx => ?_) ?_
    · refine ⟨_, (iota c.n).map T.int, rfl, sq_of (x := .rng 0 c.n) rfl ?_, ?_⟩
      · show (if rngB 0 c.n then _ else _) = _
        rw [if_pos (by simp [rngB]; omega)]
        simp [rgInts, iota, Function.comp_def]
      · have := compL_pure (tg := .var 4) (c := fun _ s => some (.bl true, s)) (elt := evE Φ (.call "clearance" [(.var 0), (.var 3), (.var 4)]) false) (env := [.sh c.e, .sh (.int i), .sh (.rng 0 c.n), .sh (.int x), .un]) (s := s) (enc := T.int) (fun _ => true) (fun j => .int (clr c x j)) (iota c.n) fun j hj => ⟨_, rfl, rfl, fun _ => ev_call (xs := [c.e, .int x, .int j]) (s1 := s) rfl (hc x j s)⟩
        rw [List.filter_eq_self.mpr (by simp)] at this
        exact this
    · rw [flat_len _ _ c.n (fun _ => by simp [iota_len])]
      unfold line
      have : (st_ c i).length * c.n ≤ 4 * 4 := Nat.mul_le_mul (by omega) (by omega)
      omega
  refine fn_rt rfl (x_nx (x_asg hr rfl rfl) (x_rt (x_ret (ev_bi q ?_))))
  have he : ((st_ c i).flatMap fun i => (iota c.n).map fun j => T.int (clr c i j)) = eL ((st_ c i).flatMap fun i => (iota c.n).map fun j => clr c i j) := by
    unfold eL
    rw [List.map_flatMap]
    congr 1; funext x; simp
  rw [he]
  show maxT _ = _
  cases hh : ((st_ c i).flatMap fun i => (iota c.n).map fun j => clr c i j) with
  | nil =>
    rw [hh] at hfl
    exfalso
    have h1 : 0 < (st_ c i).length := List.length_pos_iff.mpr hne
    have h2 := k.n1
    have : 0 < (st_ c i).length * c.n := Nat.mul_pos h1 (by omega)
    simp at hfl; omega
  | cons y ys =>
    rw [maxT_eL]
    have hy : 0 ≤ y := by
      have : y ∈ ((st_ c i).flatMap fun i => (iota c.n).map fun j => clr c i j) := by rw [hh]; exact List.mem_cons_self
      obtain ⟨a, ha, hb⟩ := List.mem_flatMap.mp this
      obtain ⟨b, hb, rfl⟩ := List.mem_map.mp hb
      exact k.clr0 _ _
    rw [mx_zero hy, ← hh]
    rfl
theorem law_clearing_ev (k : c.Ok) (hc : ∀ i j s, Φ "_law_clearance" [c.e, .int i, .int j] s = some (clrT c i j, s)) (g : List Int) : evFn Φ d__law_clearing [c.e, eR g] s = some (.int (clg c g), s) := by
  have hn4 := k.n4
  obtain ⟨e1, s1, l1, v3, v4, l2, l3⟩ := forL_inv (tg := .var 3) (body := evSs Φ [(.for_ (.var 4) (.range [(.bi .len (.idx (.var 0) (.cI 0)))]) [(.ite (.and (.cmp .ne (.var 3) (.var 4)) (.isN true (.call "_law_clearance" [(.var 0), (.var 3), (.var 4)]))) [(.asg (.var 2) (.bi2 .max (.var 2) (.call "_law_clearance" [(.var 0), (.var 3), (.var 4)])))] [])])])
    (fun b env s' => ∃ v3 v4, env = [.sh c.e, .sh (eR g), .sh (.int (clg c (g.take b))), v3, v4] ∧ s' = s) (g.map T.int) 0 [.sh c.e, .sh (eR g), .sh (.int 0), .un, .un] s ⟨_, _, rfl, rfl⟩ (by
    rintro b x env s' hb ⟨v3, v4, rfl, rfl⟩
    rw [List.getElem?_map, Option.map_eq_some_iff] at hb
    obtain ⟨i, hb, rfl⟩ := hb
    rw [Nat.zero_add]
    have htk : g.take (b + 1) = g.take b ++ [i] := by rw [List.take_succ, hb]; rfl
    have hcl : clg c (g.take (b + 1)) = mx (clg c (g.take b)) ((iota c.n).map fun j => clr c i j) := by
      unfold clg
      rw [htk, List.flatMap_append, mx_append]
      simp
    obtain ⟨e1, s1, l1, v4', l2, l3⟩ := forL_inv (tg := .var 4) (body := evSs Φ [(.ite (.and (.cmp .ne (.var 3) (.var 4)) (.isN true (.call "_law_clearance" [(.var 0), (.var 3), (.var 4)]))) [(.asg (.var 2) (.bi2 .max (.var 2) (.call "_law_clearance" [(.var 0), (.var 3), (.var 4)])))] [])])
      (fun d env s'' => ∃ v4, env = [.sh c.e, .sh (eR g), .sh (.int (mx (clg c (g.take b)) ((iota d).map fun j => clr c i j))), .sh (.int i), v4] ∧ s'' = s') ((iota c.n).map T.int) 0 [.sh c.e, .sh (eR g), .sh (.int (clg c (g.take b))), .sh (.int i), v4] s' ⟨_, rfl, rfl⟩ (by
      rintro d y env s'' hd ⟨v4, rfl, rfl⟩
      obtain ⟨hdn, rfl⟩ := iota_get hd
      rw [Nat.zero_add]
      have hm0 : 0 ≤ mx (clg c (g.take b)) ((iota d).map fun j => clr c i j) := Int.le_trans (clg_ge (c := c) (g.take b)) (mx_ge _ _).1
      have hms : mx (clg c (g.take b)) ((iota (d + 1)).map fun j => clr c i j) = if mx (clg c (g.take b)) ((iota d).map fun j => clr c i j) < clr c i d then clr c i d else mx (clg c (g.take b)) ((iota d).map fun j => clr c i j) := by
        rw [iota_succ, List.map_append, mx_append]
        rfl
      have q1 : evE Φ (.and (.cmp .ne (.var 3) (.var 4)) (.isN true (.call "_law_clearance" [(.var 0), (.var 3), (.var 4)]))) true [.sh c.e, .sh (eR g), .sh (.int (mx (clg c (g.take b)) ((iota d).map fun j => clr c i j))), .sh (.int i), .sh (.int d)] s'' = some (.bl (decide (i ≠ d) && crs c i d), s'') :=
        ev_andB (ev_cmp (s1 := s'') rfl rfl int_ne) fun _ => clrT_isN (neg := true) (ev_call (xs := [c.e, .int i, .int d]) (s1 := s'') rfl (hc i d s''))
      rw [hms]
      cases hcr : crs c i d with
      | false =>
        have hf : fnd c.X i d = none := by
          unfold crs at hcr
          simpa using hcr
        have h0 : clr c i d = 0 := by unfold clr; rw [hf]; rfl
        rw [if_neg (by rw [h0]; omega)]
        exact ⟨_, _, _, rfl, x_one (x_fz q1 (by rw [hcr, Bool.and_false]) rfl), _, rfl, rfl⟩
      | true =>
        obtain ⟨v, hfv⟩ : ∃ v, fnd c.X i d = some v := by
          unfold crs at hcr
          exact Option.isSome_iff_exists.mp hcr
        have hcv : clr c i d = v := by unfold clr; rw [hfv]; rfl
        have hct : clrT c i d = .int v := by unfold clrT; rw [hfv]
        have hne : i ≠ d := by
          rintro rfl
          rw [k.self] at hcr; cases hcr
        have q2 : evE Φ (.bi2 .max (.var 2) (.call "_law_clearance" [(.var 0), (.var 3), (.var 4)])) false [.sh c.e, .sh (eR g), .sh (.int (mx (clg c (g.take b)) ((iota d).map fun j => clr c i j))), .sh (.int i), .sh (.int d)] s'' = some (.int (if v > mx (clg c (g.take b)) ((iota d).map fun j => clr c i j) then v else mx (clg c (g.take b)) ((iota d).map fun j => clr c i j)), s'') :=
          ev_bi2 (y := .int v) (s1 := s'') rfl (ev_call (xs := [c.e, .int i, .int d]) (s1 := s'') rfl (by rw [← hct]; exact hc i d s'')) rfl
        rw [hcv]
        exact ⟨_, _, _, rfl, x_one (x_tz q1 (by rw [hcr]; simpa using hne) (x_one (x_asg q2 rfl rfl))), _, rfl, rfl⟩)
    subst l3
    rw [hcl]
    simp only [List.length_map, iota_len, Nat.zero_add] at l2
    exact ⟨_, _, _, rfl, x_one (x_for (xs := (iota c.n).map T.int) (s1 := s1) (rng1 rfl (by omega)) l1), _, _, l2, rfl⟩)
  subst l3
  subst l2
  simp only [List.length_map, Nat.zero_add, List.take_length] at l1
  exact fn_rt rfl (x_nx (x_asg (t := .int 0) (s1 := s1) rfl rfl rfl) (x_nx (x_for (xs := g.map T.int) (s1 := s1) rfl l1) (x_rt (x_ret rfl))))
end
end Gh
set_option linter.all false
set_option maxRecDepth 10000
namespace Gh
abbrev Plan := List (Int × Int)
def eP (plan : Plan) : T := .tup (plan.map e2)
def needP (c : Cr) (plan : Plan) : Int := (plan.map fun p => p.2 + clg c (st_ c p.1)).sum
structure PlanOk (c : Cr) (plan : Plan) : Prop where
  ins : ∀ p ∈ plan, InS c p.1 ∧ 1 ≤ p.2
  nd : (plan.map (·.1)).Nodup
  need : needP c plan ≤ c.len
theorem PlanOk.len {c : Cr} {plan : Plan} (k : c.Ok) (h : PlanOk c plan) : plan.length ≤ 16 := by
  have h1 : ∀ i ∈ plan.map (·.1), 0 ≤ i ∧ i < (((stg c).length : Nat) : Int) := fun i hi => by
    obtain ⟨p, hp, rfl⟩ := List.mem_map.mp hi
    exact (h.ins p hp).1
  have := nodup_len h.nd h1
  have := stg_len k
  simp at *; omega
theorem st_free {c : Cr} (k : c.Ok) {i : Int} (h : InS c i) : Free c c.n (st_ c i) := (stg_mem k h.mem).1
section
variable {Φ : String → List T → Src → Option (T × Src)} {c : Cr} {s : Src} {plan : Plan}
theorem need_of_ev (k : c.Ok) (h : PlanOk c plan) (hc : ∀ i s, InS c i → Φ "clear_ticks" [c.e, .int i] s = some (.int (clg c (st_ c i)), s)) : evFn Φ d_need_of [c.e, eP plan] s = some (.int (needP c plan), s) := by
  have hl := h.len k
  refine fn_rt rfl (x_rt (x_ret (ev_bi (x := .lst (plan.map fun p => .int (p.2 + clg c (st_ c p.1)))) (s1 := s) (ev_compM (enc := e2) (s1 := s) plan _ rfl rfl (by omega) fun p hp => ⟨_, rfl, ev_bin (s1 := s) rfl (ev_call (xs := [c.e, .int p.1]) (s1 := s) rfl (hc p.1 s (h.ins p hp).1)) rfl⟩) ?_)))
  show (intsOf _).map _ = _
  rw [show (plan.map fun p => T.int (p.2 + clg c (st_ c p.1))) = eL (plan.map fun p => p.2 + clg c (st_ c p.1)) by simp [eL]]
  rw [intsOf_eL]
  rfl
theorem is_pair_ev (hi : ∀ i s, Φ "is_integer" [.int i] s = some (.bl true, s)) (p : Int × Int) (m : Int) : evFn Φ d_is_pair [e2 p, .int m] s = some (.bl ((decide (0 ≤ p.1) && decide (p.1 < m)) && decide (0 < p.2)), s) := by
  refine fn_rt rfl (x_nx (x_fz (z := false || (false || (!true || !true))) ?_ rfl rfl) (x_rt (x_ret (ev_andB (ev_ch rfl rfl rfl rfl rfl) fun _ => rfl))))
  exact ev_orB (p := false) rfl fun _ => ev_orB (p := false) rfl fun _ => ev_orB (p := !true) (ev_not (ev_call (xs := [.int p.1]) (s1 := s) rfl (hi _ _))) fun _ => ev_not (ev_call (xs := [.int p.2]) (s1 := s) rfl (hi _ _))
theorem judge_plan_ev (k : c.Ok) (h : PlanOk c plan) (hs : ∀ s, Φ "stages" [c.e] s = some (.tup ((stg c).map eR), s)) (hp : ∀ p m s, Φ "is_pair" [e2 p, .int m] s = some (.bl ((decide (0 ≤ p.1) && decide (p.1 < m)) && decide (0 < p.2)), s))
    (hn : ∀ s, Φ "need_of" [c.e, eP plan] s = some (.int (needP c plan), s)) : evFn Φ d_judge_plan [c.e, eP plan] s = some (.non, s) := by
  have hl := h.len k
  have q1 : evE Φ (.bi .len (.call "stages" [(.var 0)])) false [.sh c.e, .sh (eP plan), .un, .un, .un, .un] s = some (.int ((stg c).length : Nat), s) := ev_bi (x := .tup ((stg c).map eR)) (s1 := s) (ev_call (xs := [c.e]) (s1 := s) rfl (hs s)) (by show some (T.int _) = _; rw [List.length_map])
  have q2 : evE Φ (.or (.not (.isi (.var 1) .tuple)) (.not (.bi .all (.comp (.call "is_pair" [(.var 5), (.var 2)]) (.var 5) (.var 1) (.cB true) [5])))) true [.sh c.e, .sh (eP plan), .sh (.int ((stg c).length : Nat)), .un, .un, .un] s = some (.bl false, s) := by
    refine ev_bz (ev_orB (p := false) rfl fun _ => ev_not (ev_bi (s1 := s) (ev_compM (enc := e2) (s1 := s) plan _ rfl rfl (by omega) fun p hpm => ⟨_, rfl, ev_call (xs := [e2 p, .int ((stg c).length : Nat)]) (s1 := s) rfl (hp p _ s)⟩) (all_map _ _))) ?_
    rw [List.all_eq_true.mpr]
    · rfl
    · intro p hpm
      have := h.ins p hpm
      simp [this.1.1, this.1.2]; omega
  obtain ⟨e1, s1, l1, v3, l2, l3⟩ := forL_inv (tg := .var 3) (body := evSs Φ [(.ite (.cmp .eq (.idx (.idx (.var 1) (.var 3)) (.cI 0)) (.idx (.idx (.var 1) (.bin .sub (.var 3) (.cI 1))) (.cI 0))) [(.ret (.tup [(.cS "twice"), (.var 3)]))] [])])
    (fun b env s' => ∃ v3, env = [.sh c.e, .sh (eP plan), .sh (.int ((stg c).length : Nat)), v3, .un, .un] ∧ s' = s) ((iota ((plan.length : Int) - 1).toNat).map fun k => .int (1 + k)) 0 [.sh c.e, .sh (eP plan), .sh (.int ((stg c).length : Nat)), .un, .un, .un] s ⟨_, rfl, rfl⟩ (by
    rintro b x env s' hb ⟨v3, rfl, rfl⟩
    have hbx : b + 1 < plan.length ∧ x = .int ((b + 1 : Nat) : Int) := by
      have h1 : b < ((plan.length : Int) - 1).toNat := by simpa [iota] using (List.getElem?_eq_some_iff.mp hb).1
      rw [List.getElem?_map, Option.map_eq_some_iff] at hb
      obtain ⟨y, hy, rfl⟩ := hb
      have h2 := iota_get (n := ((plan.length : Int) - 1).toNat) (b := b) (x := .int y) (by rw [List.getElem?_map, hy]; rfl)
      have h3 := h2.2
      simp only [T.int.injEq] at h3
      subst h3
      refine ⟨by omega, ?_⟩
      congr 1
      omega
    obtain ⟨hbl, rfl⟩ := hbx
    have g1 : (plan.map e2)[b + 1]? = some (e2 plan[b + 1]) := by rw [List.getElem?_map, List.getElem?_eq_getElem hbl]; rfl
    have g2 : (plan.map e2)[b]? = some (e2 plan[b]) := by rw [List.getElem?_map, List.getElem?_eq_getElem (by omega)]; rfl
    refine ⟨_, _, _, rfl, x_one (x_fz (ev_cmp (x := .int plan[b + 1].1) (y := .int plan[b].1) (s1 := s') (ev_idx (x := e2 plan[b + 1]) (s1 := s') (ev_idx (x := eP plan) (s1 := s') rfl rfl (ix_nat g1)) rfl rfl) (ev_idx (x := e2 plan[b]) (s1 := s') (ev_idx (x := eP plan) (y := .int (((b + 1 : Nat) : Int) - 1)) (s1 := s') rfl rfl (by rw [show ((b + 1 : Nat) : Int) - 1 = ((b : Nat) : Int) by omega]; exact ix_nat g2)) rfl rfl) int_eq) ?_ rfl), _, rfl, rfl⟩
    rw [decide_eq_false_iff_not]
    intro e
    have hp := List.pairwise_iff_getElem.mp h.nd b (b + 1) (by simp; omega) (by simpa using hbl) (by omega)
    simp at hp
    exact hp e.symm)
  subst l3
  subst l2
  refine fn_rt rfl (x_nx (x_asg q1 rfl rfl) (x_nx (x_f q2 rfl) (x_nx (x_for (xs := (iota ((plan.length : Int) - 1).toNat).map fun k => .int (1 + k)) (s1 := s1) ?_ l1) (x_nx (x_asg (t := .int (needP c plan)) (s1 := s1) (ev_call (xs := [c.e, eP plan]) (s1 := s1) rfl (hn s1)) rfl rfl) (x_rt (x_ret (ev_iteB (z := decide (needP c plan ≤ c.len)) (s1 := s1) rfl (fun _ => rfl) fun z => ?_)))))))
  · exact rng2 (s1 := s1) rfl (by show some (T.int _, _) = _; rw [List.length_map]) (by omega) (by omega)
  · exact absurd h.need (of_decide_eq_false z)
theorem law_fits_ev (k : c.Ok) (h : PlanOk c plan) (hs : ∀ s, Φ "_law_stages" [c.e] s = some (.lst ((stg c).map eR), s)) (hc : ∀ g s, Φ "_law_clearing" [c.e, eR g] s = some (.int (clg c g), s)) : evFn Φ d__law_plan_fits [c.e, eP plan] s = some (.bl true, s) := by
  have hl := h.len k
  refine fn_rt rfl (x_nx (x_asg (t := .lst ((stg c).map eR)) (s1 := s) (ev_call (xs := [c.e]) (s1 := s) rfl (hs s)) rfl rfl) (x_rt (x_ret (ev_bz (ev_cmp (x := .int (needP c plan)) (y := .int c.len) (s1 := s) (ev_bi (x := .lst (plan.map fun p => .int (p.2 + clg c (st_ c p.1)))) (s1 := s) (ev_compM (enc := e2) (s1 := s) plan _ rfl rfl (by omega) fun p hp => ⟨_, rfl, ev_bin (s1 := s) rfl (ev_call (xs := [c.e, eR (st_ c p.1)]) (s1 := s) ?_ (hc _ s)) rfl⟩) ?_) rfl rfl) (decide_eq_true h.need)))))
  · exact es_cons rfl (es_cons (ev_idx (s1 := s) rfl rfl (h.ins p hp).1.ixL) es_nil)
  · show (intsOf _).map _ = _
    rw [show (plan.map fun p => T.int (p.2 + clg c (st_ c p.1))) = eL (plan.map fun p => p.2 + clg c (st_ c p.1)) by simp [eL]]
    rw [intsOf_eL]
    rfl
/-! ### capacities -/
def bump (d : Int) (f : List Int) (i : Int) : List Int := f.set i.toNat (f.getD i.toNat 0 + d)
def capL (c : Cr) (plan : Plan) : List Int := plan.foldl (fun f p => (st_ c p.1).foldl (bump (p.2 - 1)) f) (List.replicate c.n 0)
theorem bump_len (d : Int) (g f : List Int) : (g.foldl (bump d) f).length = f.length := by
  induction g generalizing f with
  | nil => rfl
  | cons x xs ih => rw [List.foldl_cons, ih]; simp [bump]
theorem capL_len (plan : Plan) : (capL c plan).length = c.n := by
  unfold capL
  have : ∀ f : List Int, (plan.foldl (fun f p => (st_ c p.1).foldl (bump (p.2 - 1)) f) f).length = f.length := by
    induction plan with
    | nil => intro f; rfl
    | cons x xs ih => intro f; rw [List.foldl_cons, ih, bump_len]
  rw [this]; simp
theorem zeros_ev {env : List Slot} {i : Nat} {v : Nat} {m : Bool} (h0 : evE Φ (.var i) true env s = some (c.e, s)) (hf : ownFree env [v] = true) (k : c.Ok) (he : ∀ t, ∃ env1, asgTg (.var v) t (wipe env [v]) = some env1) : evE Φ (.comp (.cI 0) (.var v) (.idx (.var i) (.cI 0)) (.cB true) [v]) m env s = some (.lst (eL (List.replicate c.n 0)), s) := by
  have hn4 := k.n4
  have := ev_compM (Φ := Φ) (m := m) (enc := id) (tg := .var v) (elt := .cI 0) (own := [v]) (env := env) (s := s) (s1 := s) c.mv (fun _ => .int 0) (by rw [List.map_id]; exact sq_of (ev_idx (b := .cI 0) (s1 := s) (t := .tup c.mv) h0 (y := .int 0) rfl rfl) rfl) hf (by show c.n ≤ _; omega) fun t ht => by
    obtain ⟨e1, h1⟩ := he t
    exact ⟨e1, h1, rfl⟩
  rw [show c.mv.map (fun _ => T.int 0) = eL (List.replicate c.n 0) by simp [eL, Cr.n, List.map_const']] at this
  exact this
theorem capacity_ev (k : c.Ok) (h : PlanOk c plan) (hs : ∀ s, Φ "stages" [c.e] s = some (.tup ((stg c).map eR), s)) : evFn Φ d_capacity_of [c.e, eP plan] s = some (eR (capL c plan), s) := by
  have h0 : evS Φ (.asgs [(.var 2), (.var 3)] [(.call "stages" [(.var 0)]), (.comp (.cI 0) (.var 7) (.idx (.var 0) (.cI 0)) (.cB true) [7])]) [.sh c.e, .sh (eP plan), .un, .un, .un, .un, .un, .un] s = some (.nx, [.sh c.e, .sh (eP plan), .sh (.tup ((stg c).map eR)), .ow (.lst (eL (List.replicate c.n 0))), .un, .un, .un, .un], s) := by
    have := es_cons (Φ := Φ) (e := .call "stages" [(.var 0)]) (env := [.sh c.e, .sh (eP plan), .un, .un, .un, .un, .un, .un]) (s := s) (s1 := s) (ev_call (xs := [c.e]) (s1 := s) rfl (hs s)) (es_cons (e := .comp (.cI 0) (.var 7) (.idx (.var 0) (.cI 0)) (.cB true) [7]) (s1 := s) (zeros_ev rfl rfl k fun t => ⟨_, rfl⟩) es_nil)
    simp only [evS, this]
    rfl
  obtain ⟨e1, s1, l1, v4, v5, v6, l2, l3⟩ := forL_inv (tg := .tup [.var 4, .var 5]) (body := evSs Φ [(.for_ (.var 6) (.idx (.var 2) (.var 4)) [(.augset 3 (.var 6) .add (.bin .sub (.var 5) (.cI 1)))])])
    (fun b env s' => ∃ v4 v5 v6, env = [.sh c.e, .sh (eP plan), .sh (.tup ((stg c).map eR)), .ow (.lst (eL (capL c (plan.take b)))), v4, v5, v6, .un] ∧ s' = s) (plan.map e2) 0 [.sh c.e, .sh (eP plan), .sh (.tup ((stg c).map eR)), .ow (.lst (eL (List.replicate c.n 0))), .un, .un, .un, .un] s ⟨_, _, _, rfl, rfl⟩ (by
    rintro b x env s' hb ⟨v4, v5, v6, rfl, rfl⟩
    rw [List.getElem?_map, Option.map_eq_some_iff] at hb
    obtain ⟨p, hb, rfl⟩ := hb
    rw [Nat.zero_add]
    have htk : plan.take (b + 1) = plan.take b ++ [p] := by rw [List.take_succ, hb]; rfl
    have hcap : capL c (plan.take (b + 1)) = (st_ c p.1).foldl (bump (p.2 - 1)) (capL c (plan.take b)) := by unfold capL; rw [htk, List.foldl_append]; rfl
    have hin := (h.ins p (List.mem_of_getElem? hb)).1
    have hfr := st_free k hin
    obtain ⟨e1, s1, l1, v6', l2, l3⟩ := forL_inv (tg := .var 6) (body := evSs Φ [(.augset 3 (.var 6) .add (.bin .sub (.var 5) (.cI 1)))])
      (fun d env s'' => ∃ v6, env = [.sh c.e, .sh (eP plan), .sh (.tup ((stg c).map eR)), .ow (.lst (eL (((st_ c p.1).take d).foldl (bump (p.2 - 1)) (capL c (plan.take b))))), .sh (.int p.1), .sh (.int p.2), v6, .un] ∧ s'' = s') ((st_ c p.1).map T.int) 0 [.sh c.e, .sh (eP plan), .sh (.tup ((stg c).map eR)), .ow (.lst (eL (capL c (plan.take b)))), .sh (.int p.1), .sh (.int p.2), v6, .un] s' ⟨_, rfl, rfl⟩ (by
      rintro d y env s'' hd ⟨v6, rfl, rfl⟩
      rw [List.getElem?_map, Option.map_eq_some_iff] at hd
      obtain ⟨i, hd, rfl⟩ := hd
      rw [Nat.zero_add]
      have him := hfr.mem i (List.mem_of_getElem? hd)
      have htk2 : (st_ c p.1).take (d + 1) = (st_ c p.1).take d ++ [i] := by rw [List.take_succ, hd]; rfl
      generalize hF : ((st_ c p.1).take d).foldl (bump (p.2 - 1)) (capL c (plan.take b)) = F
      have hFl : F.length = c.n := by rw [← hF, bump_len, capL_len]
      rw [htk2, List.foldl_append, hF]
      refine ⟨_, _, _, rfl, x_one (x_augset (s1 := s'') (d := .lst (eL F)) (kt := .int i) (a := F.getD i.toNat 0) (b := p.2 - 1) rfl rfl (ix_eL him.1 (by rw [hFl]; exact him.2)) rfl rfl (set_eL rfl him.1 (by rw [hFl]; exact him.2))), _, rfl, rfl⟩)
    subst l3
    subst l2
    simp only [List.length_map, Nat.zero_add, List.take_length] at l1
    rw [hcap]
    exact ⟨_, _, _, rfl, x_one (x_for (xs := (st_ c p.1).map T.int) (s1 := s1) (sq_of (x := eR (st_ c p.1)) (ev_idx (s1 := s1) rfl rfl hin.ix) rfl) l1), _, _, _, rfl, rfl⟩)
  subst l3
  subst l2
  simp only [List.length_map, Nat.zero_add, List.take_length] at l1
  exact fn_rt rfl (x_nx h0 (x_nx (x_for (xs := plan.map e2) (s1 := s1) rfl l1) (x_rt (x_ret (ev_bi (x := .lst (eL (capL c plan))) (s1 := s1) rfl rfl)))))
theorem law_capacity_ev (k : c.Ok) (h : PlanOk c plan) (hs : ∀ s, Φ "_law_stages" [c.e] s = some (.lst ((stg c).map eR), s)) : evFn Φ d__law_capacity [c.e, eP plan] s = some (eR (capL c plan), s) := by
  have h0 : evS Φ (.asgs [(.var 2), (.var 3)] [(.call "_law_stages" [(.var 0)]), (.comp (.cI 0) (.var 7) (.idx (.var 0) (.cI 0)) (.cB true) [7])]) [.sh c.e, .sh (eP plan), .un, .un, .un, .un, .un, .un] s = some (.nx, [.sh c.e, .sh (eP plan), .sh (.lst ((stg c).map eR)), .ow (.lst (eL (List.replicate c.n 0))), .un, .un, .un, .un], s) := by
    have := es_cons (Φ := Φ) (e := .call "_law_stages" [(.var 0)]) (env := [.sh c.e, .sh (eP plan), .un, .un, .un, .un, .un, .un]) (s := s) (s1 := s) (ev_call (xs := [c.e]) (s1 := s) rfl (hs s)) (es_cons (e := .comp (.cI 0) (.var 7) (.idx (.var 0) (.cI 0)) (.cB true) [7]) (s1 := s) (zeros_ev rfl rfl k fun t => ⟨_, rfl⟩) es_nil)
    simp only [evS, this]
    rfl
  obtain ⟨e1, s1, l1, v4, v5, v6, l2, l3⟩ := forL_inv (tg := .tup [.var 4, .var 5]) (body := evSs Φ [(.for_ (.var 6) (.idx (.var 2) (.var 4)) [(.set 3 (.var 6) (.bin .sub (.bin .add (.idx (.var 3) (.var 6)) (.var 5)) (.cI 1)))])])
    (fun b env s' => ∃ v4 v5 v6, env = [.sh c.e, .sh (eP plan), .sh (.lst ((stg c).map eR)), .ow (.lst (eL (capL c (plan.take b)))), v4, v5, v6, .un] ∧ s' = s) (plan.map e2) 0 [.sh c.e, .sh (eP plan), .sh (.lst ((stg c).map eR)), .ow (.lst (eL (List.replicate c.n 0))), .un, .un, .un, .un] s ⟨_, _, _, rfl, rfl⟩ (by
    rintro b x env s' hb ⟨v4, v5, v6, rfl, rfl⟩
    rw [List.getElem?_map, Option.map_eq_some_iff] at hb
    obtain ⟨p, hb, rfl⟩ := hb
    rw [Nat.zero_add]
    have htk : plan.take (b + 1) = plan.take b ++ [p] := by rw [List.take_succ, hb]; rfl
    have hcap : capL c (plan.take (b + 1)) = (st_ c p.1).foldl (bump (p.2 - 1)) (capL c (plan.take b)) := by unfold capL; rw [htk, List.foldl_append]; rfl
    have hin := (h.ins p (List.mem_of_getElem? hb)).1
    have hfr := st_free k hin
    obtain ⟨e1, s1, l1, v6', l2, l3⟩ := forL_inv (tg := .var 6) (body := evSs Φ [(.set 3 (.var 6) (.bin .sub (.bin .add (.idx (.var 3) (.var 6)) (.var 5)) (.cI 1)))])
      (fun d env s'' => ∃ v6, env = [.sh c.e, .sh (eP plan), .sh (.lst ((stg c).map eR)), .ow (.lst (eL (((st_ c p.1).take d).foldl (bump (p.2 - 1)) (capL c (plan.take b))))), .sh (.int p.1), .sh (.int p.2), v6, .un] ∧ s'' = s') ((st_ c p.1).map T.int) 0 [.sh c.e, .sh (eP plan), .sh (.lst ((stg c).map eR)), .ow (.lst (eL (capL c (plan.take b)))), .sh (.int p.1), .sh (.int p.2), v6, .un] s' ⟨_, rfl, rfl⟩ (by
      rintro d y env s'' hd ⟨v6, rfl, rfl⟩
      rw [List.getElem?_map, Option.map_eq_some_iff] at hd
      obtain ⟨i, hd, rfl⟩ := hd
      rw [Nat.zero_add]
      have him := hfr.mem i (List.mem_of_getElem? hd)
      have htk2 : (st_ c p.1).take (d + 1) = (st_ c p.1).take d ++ [i] := by rw [List.take_succ, hd]; rfl
      generalize hF : ((st_ c p.1).take d).foldl (bump (p.2 - 1)) (capL c (plan.take b)) = F
      have hFl : F.length = c.n := by rw [← hF, bump_len, capL_len]
      rw [htk2, List.foldl_append, hF]
      have hv : evE Φ (.bin .sub (.bin .add (.idx (.var 3) (.var 6)) (.var 5)) (.cI 1)) false [.sh c.e, .sh (eP plan), .sh (.lst ((stg c).map eR)), .ow (.lst (eL F)), .sh (.int p.1), .sh (.int p.2), .sh (.int i), .un] s'' = some (.int (F.getD i.toNat 0 + (p.2 - 1)), s'') := by
        rw [show F.getD i.toNat 0 + (p.2 - 1) = F.getD i.toNat 0 + p.2 - 1 by omega]
        exact ev_bin (x := .int (F.getD i.toNat 0 + p.2)) (s1 := s'') (ev_bin (x := .int (F.getD i.toNat 0)) (s1 := s'') (ev_idx (s1 := s'') rfl rfl (ix_eL him.1 (by rw [hFl]; exact him.2))) rfl rfl) rfl rfl
      refine ⟨_, _, _, rfl, x_one (x_set (kt := .int i) (s1 := s'') hv rfl (set_eL rfl him.1 (by rw [hFl]; exact him.2))), _, rfl, rfl⟩)
    subst l3
    subst l2
    simp only [List.length_map, Nat.zero_add, List.take_length] at l1
    rw [hcap]
    exact ⟨_, _, _, rfl, x_one (x_for (xs := (st_ c p.1).map T.int) (s1 := s1) (sq_of (x := eR (st_ c p.1)) (ev_idx (s1 := s1) rfl rfl hin.ixL) rfl) l1), _, _, _, rfl, rfl⟩)
  subst l3
  subst l2
  simp only [List.length_map, Nat.zero_add, List.take_length] at l1
  exact fn_rt rfl (x_nx h0 (x_nx (x_for (xs := plan.map e2) (s1 := s1) rfl l1) (x_rt (x_ret (ev_bi (x := .lst (eL (capL c plan))) (s1 := s1) rfl rfl)))))
end
end Gh
set_option linter.all false
set_option maxRecDepth 10000
namespace Gh
/-- the greens of a plan from tick t on -/
def gr3 (c : Cr) : Plan → Int → List (Int × Int × Int)
  | [], _ => []
  | p :: r, t => ((st_ c p.1).map fun i => (i, t, t + p.2)) ++ gr3 c r (t + (p.2 + clg c (st_ c p.1)))
def rowAt (c : Cr) : Plan → Int → Int → List Int
  | [], _, _ => []
  | p :: r, t, x => if t ≤ x ∧ x < t + p.2 then st_ c p.1 else rowAt c r (t + (p.2 + clg c (st_ c p.1))) x
def act (x : Int) (q : Int × Int × Int) : Bool := decide (q.2.1 ≤ x) && decide (x < q.2.2)
theorem gr3_late {c : Cr} : ∀ (plan : Plan) (t : Int), (∀ p ∈ plan, 1 ≤ p.2) → ∀ q ∈ gr3 c plan t, t ≤ q.2.1
  | [], t, _, q, h => by cases h
  | p :: r, t, h1, q, h => by
    rcases List.mem_append.mp h with h | h
    · obtain ⟨i, _, rfl⟩ := List.mem_map.mp h
      exact Int.le_refl _
    · have := gr3_late r _ (fun p hp => h1 p (List.mem_cons_of_mem _ hp)) q h
      have h2 := h1 p List.mem_cons_self
      have h3 := clg_ge (c := c) (st_ c p.1)
      omega
theorem gr3_act {c : Cr} : ∀ (plan : Plan) (t x : Int), (∀ p ∈ plan, 1 ≤ p.2) → ∃ b e, (gr3 c plan t).filter (act x) = (rowAt c plan t x).map fun i => (i, b, e)
  | [], t, x, _ => ⟨0, 0, rfl⟩
  | p :: r, t, x, h1 => by
    have h2 := h1 p List.mem_cons_self
    have h3 := clg_ge (c := c) (st_ c p.1)
    have h4 : ∀ p ∈ r, 1 ≤ p.2 := fun p hp => h1 p (List.mem_cons_of_mem _ hp)
    simp only [gr3, rowAt, List.filter_append]
    by_cases h : t ≤ x ∧ x < t + p.2
    · refine ⟨t, t + p.2, ?_⟩
      rw [if_pos h]
      have e1 : ((st_ c p.1).map fun i => (i, t, t + p.2)).filter (act x) = (st_ c p.1).map fun i => (i, t, t + p.2) := by
        rw [List.filter_eq_self]
        intro q hq
        obtain ⟨i, _, rfl⟩ := List.mem_map.mp hq
        simp [act, h.1, h.2]
      have e2 : (gr3 c r (t + (p.2 + clg c (st_ c p.1)))).filter (act x) = [] := by
        rw [List.filter_eq_nil_iff]
        intro q hq hh
        have := gr3_late r _ h4 q hq
        simp [act] at hh
        omega
      rw [e1, e2, List.append_nil]
    · rw [if_neg h]
      have e1 : ((st_ c p.1).map fun i => (i, t, t + p.2)).filter (act x) = [] := by
        rw [List.filter_eq_nil_iff]
        intro q hq hh
        obtain ⟨i, _, rfl⟩ := List.mem_map.mp hq
        simp [act] at hh
        exact h hh
      rw [e1, List.nil_append]
      exact gr3_act r _ x h4
theorem rowAt_asc {c : Cr} (k : c.Ok) : ∀ (plan : Plan) (t x : Int), (∀ p ∈ plan, InS c p.1) → Free c c.n (rowAt c plan t x)
  | [], t, x, _ => ⟨.nil, (fun _ h => by cases h), (fun _ h => by cases h)⟩
  | p :: r, t, x, h => by
    simp only [rowAt]
    split
    · exact st_free k (h p List.mem_cons_self)
    · exact rowAt_asc k r _ x fun p hp => h p (List.mem_cons_of_mem _ hp)
section
variable {Φ : String → List T → Src → Option (T × Src)} {c : Cr} {s : Src} {plan : Plan}
theorem gr3_len (k : c.Ok) : ∀ (plan : Plan) (t : Int), (∀ p ∈ plan, InS c p.1) → (gr3 c plan t).length ≤ 4 * plan.length
  | [], t, _ => by simp [gr3]
  | p :: r, t, h => by
    have h1 := gr3_len k r (t + (p.2 + clg c (st_ c p.1))) fun p hp => h p (List.mem_cons_of_mem _ hp)
    have h2 := (st_free k (h p List.mem_cons_self)).len
    have h3 := k.n4
    simp only [gr3, List.length_append, List.length_map, List.length_cons]
    omega
theorem greens_ev (k : c.Ok) (h : PlanOk c plan) (hs : ∀ s, Φ "stages" [c.e] s = some (.tup ((stg c).map eR), s)) (hc : ∀ i s, InS c i → Φ "clear_ticks" [c.e, .int i] s = some (.int (clg c (st_ c i)), s)) : evFn Φ d_greens [c.e, eP plan] s = some (.tup ((sort3 (gr3 c plan 0)).map e3), s) := by
  have hl := h.len k
  have h0 : evS Φ (.asgs [(.var 2), (.var 3), (.var 4)] [(.call "stages" [(.var 0)]), (.lst []), (.cI 0)]) [.sh c.e, .sh (eP plan), .un, .un, .un, .un, .un, .un] s = some (.nx, [.sh c.e, .sh (eP plan), .sh (.tup ((stg c).map eR)), .ow (.lst []), .sh (.int 0), .un, .un, .un], s) := by
    have := es_cons (Φ := Φ) (e := .call "stages" [(.var 0)]) (env := [.sh c.e, .sh (eP plan), .un, .un, .un, .un, .un, .un]) (s := s) (s1 := s) (ev_call (xs := [c.e]) (s1 := s) rfl (hs s)) (es_cons (e := .lst []) (x := .lst []) (s1 := s) rfl (es_cons (e := .cI 0) (x := .int 0) (s1 := s) rfl es_nil))
    simp only [evS, this]
    rfl
  have hgen : ∀ (r done : Plan) (t : Int) (F : List (Int × Int × Int)) (v5 v6 : Slot), (∀ p ∈ r, InS c p.1 ∧ 1 ≤ p.2) → F.length + 4 * r.length ≤ 1000 → ∃ t' v5' v6', forL (evSs Φ [(.ext 3 (.comp (.tup [(.var 7), (.var 4), (.bin .add (.var 4) (.var 6))]) (.var 7) (.idx (.var 2) (.var 5)) (.cB true) [7])), (.aug 4 .add (.bin .add (.var 6) (.call "clear_ticks" [(.var 0), (.var 5)])))]) (.tup [.var 5, .var 6]) (r.map e2)
      [.sh c.e, .sh (eP plan), .sh (.tup ((stg c).map eR)), .ow (.lst (F.map e3)), .sh (.int t), v5, v6, .un] s = some (.nx, [.sh c.e, .sh (eP plan), .sh (.tup ((stg c).map eR)), .ow (.lst ((F ++ gr3 c r t).map e3)), .sh (.int t'), v5', v6', .un], s) := by
    intro r done
    induction r with
    | nil => intro t F v5 v6 _ _; exact ⟨t, v5, v6, by simp [forL, gr3]⟩
    | cons p r ih =>
      intro t F v5 v6 h1 h2
      have hin := h1 p List.mem_cons_self
      have hfl := (st_free k hin.1).len
      have hn4 := k.n4
      simp only [List.length_cons] at h2
      obtain ⟨t', v5', v6', h3⟩ := ih (t + (p.2 + clg c (st_ c p.1))) (F ++ (st_ c p.1).map fun i => (i, t, t + p.2)) (.sh (.int p.1)) (.sh (.int p.2)) (fun p hp => h1 p (List.mem_cons_of_mem _ hp)) (by simp; omega)
      refine ⟨t', v5', v6', ?_⟩
      have q1 : evE Φ (.comp (.tup [(.var 7), (.var 4), (.bin .add (.var 4) (.var 6))]) (.var 7) (.idx (.var 2) (.var 5)) (.cB true) [7]) true [.sh c.e, .sh (eP plan), .sh (.tup ((stg c).map eR)), .ow (.lst (F.map e3)), .sh (.int t), .sh (.int p.1), .sh (.int p.2), .un] s = some (.lst (((st_ c p.1).map fun i => (i, t, t + p.2)).map e3), s) := by
        rw [List.map_map]
        exact ev_compM (enc := T.int) (s1 := s) (st_ c p.1) _ (sq_of (x := eR (st_ c p.1)) (ev_idx (s1 := s) rfl rfl hin.1.ix) rfl) rfl (by omega) fun i hi => ⟨_, rfl, rfl⟩
      have ea : asgTg (.tup [.var 5, .var 6]) (e2 p) [.sh c.e, .sh (eP plan), .sh (.tup ((stg c).map eR)), .ow (.lst (F.map e3)), .sh (.int t), v5, v6, .un] = some [.sh c.e, .sh (eP plan), .sh (.tup ((stg c).map eR)), .ow (.lst (F.map e3)), .sh (.int t), .sh (.int p.1), .sh (.int p.2), .un] := rfl
      have q3 : evSs Φ [(.ext 3 (.comp (.tup [(.var 7), (.var 4), (.bin .add (.var 4) (.var 6))]) (.var 7) (.idx (.var 2) (.var 5)) (.cB true) [7])), (.aug 4 .add (.bin .add (.var 6) (.call "clear_ticks" [(.var 0), (.var 5)])))] [.sh c.e, .sh (eP plan), .sh (.tup ((stg c).map eR)), .ow (.lst (F.map e3)), .sh (.int t), .sh (.int p.1), .sh (.int p.2), .un] s =
          some (.nx, [.sh c.e, .sh (eP plan), .sh (.tup ((stg c).map eR)), .ow (.lst ((F ++ (st_ c p.1).map fun i => (i, t, t + p.2)).map e3)), .sh (.int (t + (p.2 + clg c (st_ c p.1)))), .sh (.int p.1), .sh (.int p.2), .un], s) := by
        rw [List.map_append]
        exact x_nx (x_ext q1 rfl (by rw [List.length_map, List.length_map, List.length_map]; unfold line; omega)) (x_one (x_aug (a := t) (b := p.2 + clg c (st_ c p.1)) (s1 := s) rfl (ev_bin (s1 := s) rfl (ev_call (xs := [c.e, .int p.1]) (s1 := s) rfl (hc p.1 s hin.1)) rfl) rfl))
      simp only [List.map_cons, forL, ea, q3]
      rw [h3, List.append_assoc]
      rfl
  obtain ⟨t', v5', v6', h3⟩ := hgen plan [] 0 [] .un .un h.ins (by simp; omega)
  exact fn_rt rfl (x_nx h0 (x_nx (x_for (xs := plan.map e2) (s1 := s) rfl h3) (x_rt (x_ret (ev_bi (x := .lst ((sort3 (gr3 c plan 0)).map e3)) (s1 := s) (ev_bi (x := .lst ((gr3 c plan 0).map e3)) (s1 := s) rfl (sort_e3 _)) rfl)))))
theorem lamps_ev (k : c.Ok) (h : PlanOk c plan) (hg : ∀ s, Φ "greens" [c.e, eP plan] s = some (.tup ((sort3 (gr3 c plan 0)).map e3), s)) (x : Int) : evFn Φ d_lamps_at [c.e, eP plan, .int x] s = some (eR (rowAt c plan 0 x), s) := by
  have hl := h.len k
  have hgl := gr3_len k plan 0 fun p hp => (h.ins p hp).1
  refine fn_rt rfl (x_rt (x_ret (ev_bi (x := .lst (((sort3 (gr3 c plan 0)).filter (act x)).map fun q => .int q.1)) (s1 := s) (ev_compP (enc := e3) (s1 := s) (sort3 (gr3 c plan 0)) (act x) (fun q => .int q.1) (sq_of (ev_call (xs := [c.e, eP plan]) (s1 := s) rfl (hg s)) rfl) rfl (by unfold sort3; rw [List.length_mergeSort]; omega) fun q hq => ⟨_, rfl, ev_ch rfl rfl rfl rfl rfl, fun _ => rfl⟩) ?_)))
  obtain ⟨b, e, hb⟩ := gr3_act (c := c) plan 0 x fun p hp => (h.ins p hp).2
  have hr := rowAt_asc k plan 0 x fun p hp => (h.ins p hp).1
  rw [sort3_filter hb (by
    rw [List.pairwise_map]
    exact hr.asc.imp fun h => by rw [le3_iff]; exact .inl h)]
  show some (T.tup _) = some (T.tup _)
  rw [List.map_map]
  rfl
end
end Gh
set_option linter.all false
set_option maxRecDepth 10000
namespace Gh
section
variable {c : Cr}
theorem need_cons (p : Int × Int) (r : Plan) : needP c (p :: r) = p.2 + clg c (st_ c p.1) + needP c r := by simp [needP]
theorem need_nn : ∀ (plan : Plan), (∀ p ∈ plan, 1 ≤ p.2) → 0 ≤ needP c plan
  | [], _ => by simp [needP]
  | p :: r, h => by
    have := need_nn r fun p hp => h p (List.mem_cons_of_mem _ hp)
    have := h p List.mem_cons_self
    have := clg_ge (c := c) (st_ c p.1)
    rw [need_cons]; omega
theorem rowAt_ge : ∀ (plan : Plan) (t x i : Int), (∀ p ∈ plan, 1 ≤ p.2) → i ∈ rowAt c plan t x → t ≤ x
  | [], t, x, i, _, h => by cases h
  | p :: r, t, x, i, h1, h => by
    simp only [rowAt] at h
    split at h
    · rename_i h2; exact h2.1
    · have := rowAt_ge r _ x i (fun p hp => h1 p (List.mem_cons_of_mem _ hp)) h
      have := h1 p List.mem_cons_self
      have := clg_ge (c := c) (st_ c p.1)
      omega
theorem rowAt_nil {plan : Plan} {t x : Int} (h1 : ∀ p ∈ plan, 1 ≤ p.2) (h : x < t) : rowAt c plan t x = [] := by
  cases e : rowAt c plan t x with
  | nil => rfl
  | cons i r =>
    have := rowAt_ge plan t x i h1 (by rw [e]; exact List.mem_cons_self)
    omega
theorem rowAt_tail (k : c.Ok) : ∀ (plan : Plan) (t x i j v : Int), (∀ p ∈ plan, 1 ≤ p.2) → i ∈ rowAt c plan t x → fnd c.X i j = some v → x + v + 1 ≤ t + needP c plan
  | [], t, x, i, j, v, _, h, _ => by cases h
  | p :: r, t, x, i, j, v, h1, h, hv => by
    have h3 : ∀ p ∈ r, 1 ≤ p.2 := fun p hp => h1 p (List.mem_cons_of_mem _ hp)
    rw [need_cons]
    simp only [rowAt] at h
    split at h
    · rename_i h2
      have := clg_clr k h hv
      have := need_nn (c := c) r h3
      omega
    · have := rowAt_tail k r _ x i j v h3 h hv
      omega
theorem rowAt_wide (k : c.Ok) : ∀ (plan : Plan) (t x y i j v : Int), (∀ p ∈ plan, InS c p.1 ∧ 1 ≤ p.2) → x ≤ y → i ∈ rowAt c plan t x → j ∈ rowAt c plan t y → fnd c.X i j = some v → v < y - x
  | [], t, x, y, i, j, v, _, _, h, _, _ => by cases h
  | p :: r, t, x, y, i, j, v, h1, hxy, hi, hj, hv => by
    have h3 : ∀ p ∈ r, 1 ≤ p.2 := fun p hp => (h1 p (List.mem_cons_of_mem _ hp)).2
    have hp := h1 p List.mem_cons_self
    have hcl := clg_ge (c := c) (st_ c p.1)
    simp only [rowAt] at hi hj
    split at hi
    · rename_i h2
      split at hj
      · have := (st_free k hp.1).ind i hi j hj
        rw [crs_of hv] at this
        cases this
      · have := rowAt_ge r _ y j h3 hj
        have := clg_clr k hi hv
        omega
    · have := rowAt_ge r _ x i h3 hi
      split at hj
      · omega
      · exact rowAt_wide k r _ x y i j v (fun p hp => h1 p (List.mem_cons_of_mem _ hp)) hxy hi hj hv
/-- a frame's lamps -/
def frame (c : Cr) (plan : Plan) : List (List Int) := (iota c.len.toNat).map fun x => rowAt c plan 0 x
theorem frame_len (plan : Plan) : (frame c plan).length = c.len.toNat := by simp [frame, iota_len]
theorem frame_get {plan : Plan} {b : Nat} {g : List Int} (h : (frame c plan)[b]? = some g) : b < c.len.toNat ∧ g = rowAt c plan 0 b := by
  have hb : b < c.len.toNat := by
    have := (List.getElem?_eq_some_iff.mp h).1
    rwa [frame_len] at this
  refine ⟨hb, ?_⟩
  simp [frame, iota, hb] at h
  exact h.symm
/-- behind a tale a new frame may begin -/
def Tail (c : Cr) (R : List (List Int)) : Prop := ∀ (a : Nat) (g : List Int), R[a]? = some g → ∀ i ∈ g, ∀ j v, fnd c.X i j = some v → (a : Int) + v + 1 ≤ R.length
structure Grow (c : Cr) (R : List (List Int)) : Prop where
  gr : ∀ g ∈ R, Gr c g
  wide : Wide c R
  tail : Tail c R
theorem Grow.nil : Grow c [] := ⟨(fun _ h => by cases h), (fun a b g h _ e => by simp at e), (fun a g e => by simp at e)⟩
theorem Grow.frame (k : c.Ok) {R : List (List Int)} (h : Grow c R) {plan : Plan} (hp : PlanOk c plan) : Grow c (R ++ frame c plan) := by
  have hl1 := k.l1
  have h1 : ∀ p ∈ plan, 1 ≤ p.2 := fun p hpm => (hp.ins p hpm).2
  have gt : ∀ {a : Nat} {g : List Int}, (R ++ Gh.frame c plan)[a]? = some g → (a < R.length ∧ R[a]? = some g) ∨ (R.length ≤ a ∧ a - R.length < c.len.toNat ∧ g = rowAt c plan 0 ((a - R.length : Nat) : Int)) := fun {a g} e => by
    by_cases ha : a < R.length
    · rw [List.getElem?_append_left ha] at e
      exact .inl ⟨ha, e⟩
    · rw [List.getElem?_append_right (by omega)] at e
      obtain ⟨h2, h3⟩ := frame_get e
      exact .inr ⟨by omega, h2, h3⟩
  refine ⟨fun g hg => ?_, fun a b g g' hab ea eb i hi j hj v hv => ?_, fun a g ea i hi j v hv => ?_⟩
  · rcases List.mem_append.mp hg with hg | hg
    · exact h.gr g hg
    · obtain ⟨x, _, rfl⟩ := List.mem_map.mp hg
      have := rowAt_asc k plan 0 x fun p hpm => (hp.ins p hpm).1
      exact ⟨this.asc, this.mem⟩
  · rcases gt ea with ⟨ha, ea⟩ | ⟨ha, ha2, rfl⟩
    · rcases gt eb with ⟨hb, eb⟩ | ⟨hb, hb2, rfl⟩
      · exact h.wide a b g g' hab ea eb i hi j hj v hv
      · have := h.tail a g ea i hi j v hv
        omega
    · rcases gt eb with ⟨hb, eb⟩ | ⟨hb, hb2, rfl⟩
      · omega
      · have := rowAt_wide k plan 0 ((a - R.length : Nat) : Int) ((b - R.length : Nat) : Int) i j v hp.ins (by omega) hi hj hv
        omega
  · rw [List.length_append, frame_len]
    rcases gt ea with ⟨ha, ea⟩ | ⟨ha, ha2, rfl⟩
    · have := h.tail a g ea i hi j v hv
      omega
    · have := rowAt_tail k plan 0 ((a - R.length : Nat) : Int) i j v h1 hi hv
      have := hp.need
      omega
theorem Grow.tale {R : List (List Int)} (h : Grow c R) (hl : R.length ≤ 1000) : Tale c R := ⟨h.gr, h.wide, hl⟩

/-! ### ticks behind one another -/
def adjB (B : List Bool) : Nat := ((B.zip (B.drop 1)).filter fun p => p.1 && p.2).length
theorem adjB_cons2 (x y : Bool) (r : List Bool) : adjB (x :: y :: r) = (if x && y then 1 else 0) + adjB (y :: r) := by
  simp only [adjB, List.drop_succ_cons, List.drop_zero, List.zip_cons_cons, List.filter_cons]
  cases x && y <;> simp <;> omega
def hdB (B : List Bool) : Bool := B.head?.getD false
def lsB (B : List Bool) : Bool := B.getLast?.getD false
theorem adjB_append : ∀ (A B : List Bool), adjB (A ++ B) = adjB A + adjB B + if lsB A && hdB B then 1 else 0
  | [], B => by simp [adjB, lsB]
  | [x], [] => by simp [adjB, hdB]
  | [x], y :: r => by rw [List.singleton_append, adjB_cons2]; simp [adjB, lsB, hdB]; omega
  | x :: y :: r, B => by
    have ih := adjB_append (y :: r) B
    rw [List.cons_append, List.cons_append, adjB_cons2, adjB_cons2, ← List.cons_append, ih]
    have : lsB (x :: y :: r) = lsB (y :: r) := by simp [lsB, List.getLast?_cons_cons]
    rw [this]; omega
theorem adjB_rep (b : Bool) : ∀ k : Nat, adjB (List.replicate k b) = if b then k - 1 else 0
  | 0 => by cases b <;> rfl
  | 1 => by cases b <;> rfl
  | k + 2 => by
    have ih := adjB_rep b (k + 1)
    rw [List.replicate_succ, List.replicate_succ, adjB_cons2, ← List.replicate_succ, ih]
    cases b <;> simp <;> omega
theorem lsB_rep (b : Bool) (k : Nat) (h : 0 < k) : lsB (List.replicate k b) = b := by
  cases k with
  | zero => omega
  | succ k => simp [lsB, List.getLast?_replicate]
theorem hdB_rep (b : Bool) (k : Nat) (h : 0 < k) (r : List Bool) : hdB (List.replicate k b ++ r) = b := by
  cases k with
  | zero => omega
  | succ k => simp [hdB, List.replicate_succ]
def capI (c : Cr) (plan : Plan) (i : Int) : Int := (plan.map fun p => if (st_ c p.1).contains i then p.2 - 1 else 0).sum
def linkI (c : Cr) (i : Int) : Plan → Int
  | [] => 0
  | [_] => 0
  | p :: q :: r => (if ((st_ c p.1).contains i && (st_ c q.1).contains i) && decide (clg c (st_ c p.1) = 0) then 1 else 0) + linkI c i (q :: r)
def bits (c : Cr) (plan : Plan) (t : Int) (m : Nat) (i : Int) : List Bool := (iota m).map fun x => (rowAt c plan t (t + x)).contains i
theorem iota_add (a b : Nat) : iota (a + b) = iota a ++ (iota b).map fun x => (a : Int) + x := by
  induction b with
  | zero => simp [iota]
  | succ b ih => rw [← Nat.add_assoc, iota_succ, ih, iota_succ, List.map_append, List.append_assoc]; simp
theorem bits_nil (t : Int) (m : Nat) (i : Int) : bits c [] t m i = List.replicate m false := by
  unfold bits rowAt
  simp [List.map_const', iota_len]
theorem bits_cons (p : Int × Int) (r : Plan) (t : Int) (m : Nat) (i : Int) (h1 : ∀ q ∈ p :: r, 1 ≤ q.2) (hm : p.2 + clg c (st_ c p.1) ≤ m) :
    bits c (p :: r) t m i = List.replicate p.2.toNat ((st_ c p.1).contains i) ++ (List.replicate (clg c (st_ c p.1)).toNat false ++ bits c r (t + (p.2 + clg c (st_ c p.1))) (m - p.2.toNat - (clg c (st_ c p.1)).toNat) i) := by
  have hp := h1 p List.mem_cons_self
  have hcl := clg_ge (c := c) (st_ c p.1)
  have hr : ∀ q ∈ r, 1 ≤ q.2 := fun q hq => h1 q (List.mem_cons_of_mem _ hq)
  have hm2 : m = p.2.toNat + ((clg c (st_ c p.1)).toNat + (m - p.2.toNat - (clg c (st_ c p.1)).toNat)) := by omega
  generalize hd : m - p.2.toNat - (clg c (st_ c p.1)).toNat = d at hm2 ⊢
  rw [hm2]
  unfold bits
  rw [iota_add, List.map_append, iota_add, List.map_append, List.map_append, List.map_map, List.map_map, List.map_map]
  congr 1
  · rw [List.eq_replicate_iff]
    refine ⟨by simp [iota_len], fun b hb => ?_⟩
    obtain ⟨x, hx, rfl⟩ := List.mem_map.mp hb
    have := mem_iota.mp hx
    rw [rowAt, if_pos (by omega)]
  · congr 1
    · rw [List.eq_replicate_iff]
      refine ⟨by simp [iota_len], fun b hb => ?_⟩
      obtain ⟨x, hx, rfl⟩ := List.mem_map.mp hb
      have := mem_iota.mp hx
      simp only [Function.comp]
      rw [rowAt, if_neg (by omega), rowAt_nil hr (by omega)]
      rfl
    · apply List.map_congr_left
      intro x hx
      have := mem_iota.mp hx
      simp only [Function.comp]
      rw [rowAt, if_neg (by omega)]
      congr 2
      omega
def hdP (c : Cr) (i : Int) : Plan → Bool
  | [] => false
  | p :: _ => (st_ c p.1).contains i
theorem bits_hd (plan : Plan) (t : Int) (m : Nat) (i : Int) (h1 : ∀ p ∈ plan, 1 ≤ p.2) (hm : needP c plan ≤ m) : hdB (bits c plan t m i) = hdP c i plan := by
  cases plan with
  | nil => rw [bits_nil]; cases m <;> rfl
  | cons p r =>
    have h2 := h1 p List.mem_cons_self
    have h3 := need_nn (c := c) r fun q hq => h1 q (List.mem_cons_of_mem _ hq)
    rw [need_cons] at hm
    rw [bits_cons p r t m i h1 (by omega), hdB_rep _ _ (by omega)]
    rfl
theorem bits_adj (i : Int) : ∀ (plan : Plan) (t : Int) (m : Nat), (∀ p ∈ plan, 1 ≤ p.2) → needP c plan ≤ m → (adjB (bits c plan t m i) : Int) = capI c plan i + linkI c i plan
  | [], t, m, _, _ => by rw [bits_nil, adjB_rep]; simp [capI, linkI]
  | p :: r, t, m, h1, hm => by
    have hp := h1 p List.mem_cons_self
    have hcl := clg_ge (c := c) (st_ c p.1)
    have hr : ∀ q ∈ r, 1 ≤ q.2 := fun q hq => h1 q (List.mem_cons_of_mem _ hq)
    have h3 := need_nn (c := c) r hr
    rw [need_cons] at hm
    have ih := bits_adj i r (t + (p.2 + clg c (st_ c p.1))) (m - p.2.toNat - (clg c (st_ c p.1)).toNat) hr (by omega)
    have hh := bits_hd (c := c) r (t + (p.2 + clg c (st_ c p.1))) (m - p.2.toNat - (clg c (st_ c p.1)).toNat) i hr (by omega)
    rw [bits_cons p r t m i h1 (by omega), adjB_append, adjB_append, adjB_rep, adjB_rep, lsB_rep ((st_ c p.1).contains i) p.2.toNat (by omega)]
    generalize bits c r (t + (p.2 + clg c (st_ c p.1))) (m - p.2.toNat - (clg c (st_ c p.1)).toNat) i = B at ih hh
    have hcap : capI c (p :: r) i = (if (st_ c p.1).contains i then p.2 - 1 else 0) + capI c r i := by simp [capI]
    have hk : (((if (st_ c p.1).contains i then p.2.toNat - 1 else 0 : Nat) : Nat) : Int) = if (st_ c p.1).contains i then p.2 - 1 else 0 := by split <;> omega
    rw [hcap]
    by_cases h0 : clg c (st_ c p.1) = 0
    · have hz : List.replicate (clg c (st_ c p.1)).toNat false ++ B = B := by rw [h0]; rfl
      have hz2 : lsB (List.replicate (clg c (st_ c p.1)).toNat false) = false := by rw [h0]; rfl
      rw [hz, hz2, hh]
      cases r with
      | nil =>
        rw [show hdP c i [] = false from rfl]
        simp only [linkI, Bool.and_false, Bool.false_and] at ih ⊢; simp only [Bool.false_eq_true, if_false]; omega
      | cons q r =>
        rw [show hdP c i (q :: r) = (st_ c q.1).contains i from rfl]
        simp only [linkI, Bool.false_and]
        rw [decide_eq_true h0, Bool.and_true]
        simp only [Bool.false_eq_true, if_false]
        by_cases hb : ((st_ c p.1).contains i && (st_ c q.1).contains i) = true
        · rw [if_pos hb, if_pos hb]; omega
        · rw [if_neg hb, if_neg hb]; omega
    · have hz : hdB (List.replicate (clg c (st_ c p.1)).toNat false ++ B) = false := hdB_rep _ _ (by omega) _
      rw [hz, lsB_rep false _ (by omega)]
      cases r with
      | nil => simp only [linkI, Bool.and_false, Bool.false_and] at ih ⊢; simp only [Bool.false_eq_true, if_false]; omega
      | cons q r =>
        simp only [linkI, Bool.and_false, Bool.false_and]
        rw [decide_eq_false h0, Bool.and_false]
        simp only [Bool.false_eq_true, if_false]
        omega
theorem adj_eq (R : List (List Int)) (i : Int) : adj R i = adjB (R.map fun g => g.contains i) := rfl
theorem frame_bits (plan : Plan) (i : Int) : (frame c plan).map (fun g => g.contains i) = bits c plan 0 c.len.toNat i := by
  unfold frame bits
  rw [List.map_map]
  apply List.map_congr_left
  intro x _
  simp
theorem adj_frame (k : c.Ok) {R : List (List Int)} {plan : Plan} (hp : PlanOk c plan) (i : Int) : (adj (R ++ frame c plan) i : Int) = (adj R i : Int) + (capI c plan i + linkI c i plan) + if lsB (R.map fun g => g.contains i) && (rowAt c plan 0 0).contains i then 1 else 0 := by
  have hl := k.l1
  rw [adj_eq, adj_eq, List.map_append, adjB_append, frame_bits]
  have h1 := bits_adj (c := c) i plan 0 c.len.toNat (fun p hpm => (hp.ins p hpm).2) (by have := hp.need; omega)
  have h2 : hdB (bits c plan 0 c.len.toNat i) = (rowAt c plan 0 0).contains i := by
    unfold bits hdB iota
    rw [show c.len.toNat = (c.len.toNat - 1) + 1 by omega]
    simp [List.range_succ_eq_map]
  rw [h2]
  split <;> omega
/-! ### the capacities' numbers -/
theorem bump_get (d : Int) : ∀ (g f : List Int) (j : Nat), g.Pairwise (· < ·) → (∀ i ∈ g, 0 ≤ i ∧ i < (f.length : Int)) → j < f.length → (g.foldl (bump d) f).getD j 0 = f.getD j 0 + if g.contains (j : Int) then d else 0
  | [], f, j, _, _, _ => by simp
  | x :: xs, f, j, ha, hm, hj => by
    rw [List.pairwise_cons] at ha
    have hx := hm x List.mem_cons_self
    have hl : (bump d f x).length = f.length := by simp [bump]
    rw [List.foldl_cons, bump_get d xs (bump d f x) j ha.2 (fun i hi => by rw [hl]; exact hm i (List.mem_cons_of_mem _ hi)) (by rw [hl]; exact hj)]
    by_cases e : x = (j : Int)
    · have h1 : xs.contains (j : Int) = false := by
        rw [← Bool.not_eq_true]
        intro hc
        have := ha.1 (j : Int) (by simpa using hc)
        omega
      have h2 : (x :: xs).contains (j : Int) = true := by simp [e]
      have h3 : (bump d f x).getD j 0 = f.getD j 0 + d := by
        have hn : x.toNat = j := by omega
        simp [bump, hn, List.getD_eq_getElem?_getD, List.getElem?_set, hj]
      rw [h1, h2, h3]; simp
    · have h1 : (x :: xs).contains (j : Int) = xs.contains (j : Int) := by
        simp only [List.contains_cons]
        have : ((j : Int) == x) = false := by simpa using fun h => e h.symm
        rw [this, Bool.false_or]
      have h3 : (bump d f x).getD j 0 = f.getD j 0 := by
        have hn : x.toNat ≠ j := by omega
        simp [bump, List.getD_eq_getElem?_getD, List.getElem?_set, hn]
      rw [h1, h3]
theorem capL_get (k : c.Ok) {plan : Plan} (h : ∀ p ∈ plan, InS c p.1) {j : Nat} (hj : j < c.n) : (capL c plan).getD j 0 = capI c plan j := by
  have : ∀ (plan : Plan) (f : List Int), (∀ p ∈ plan, InS c p.1) → f.length = c.n → (plan.foldl (fun f p => (st_ c p.1).foldl (bump (p.2 - 1)) f) f).getD j 0 = f.getD j 0 + capI c plan j := by
    intro plan
    induction plan with
    | nil => intro f _ _; simp [capI]
    | cons p r ih =>
      intro f h1 hf
      have fr := st_free k (h1 p List.mem_cons_self)
      rw [List.foldl_cons, ih _ (fun q hq => h1 q (List.mem_cons_of_mem _ hq)) (by rw [bump_len, hf]), bump_get _ _ _ _ fr.asc (by rw [hf]; exact fr.mem) (by omega)]
      simp only [capI, List.map_cons, List.sum_cons]
      omega
  unfold capL
  rw [this plan _ h (by simp)]
  simp [List.getD_eq_getElem?_getD, List.getElem?_replicate, hj]
end
end Gh
set_option linter.all false
set_option maxRecDepth 10000
namespace Gh
section
variable {c : Cr}
def idle (k : Int) : Ilk := ⟨k, [], [], 0, [], 0⟩
theorem idle_want (k : Int) : (idle k).want = [] := by unfold Ilk.want idle; simp
theorem idle_next (k : Int) : (idle k).next = idle (k + 1) := by
  unfold Ilk.next
  rw [idle_want]
  simp [idle, sort2]
theorem idle_run (m : Nat) : ∀ (k : Int) (r : List Hap), rowsH (idle k) (List.replicate m .tick ++ r) = List.replicate m [] ++ rowsH (idle (k + m)) r ∧ (RunOk c (idle (k + m)) r → RunOk c (idle k) (List.replicate m .tick ++ r)) := by
  induction m with
  | zero => intro k r; simp
  | succ m ih =>
    intro k r
    obtain ⟨h1, h2⟩ := ih (k + 1) r
    rw [List.replicate_succ, List.replicate_succ, List.cons_append, List.cons_append]
    rw [show k + 1 + (m : Int) = k + ((m + 1 : Nat) : Int) by omega] at h1 h2
    refine ⟨?_, fun h => ⟨?_, ?_⟩⟩
    · rw [rowsH, idle_want, idle_next, h1]
    · refine ⟨by rw [idle_want]; exact ⟨.nil, (fun _ h => by cases h)⟩, by simp [idle], by simp [idle], ?_, ?_⟩
      · rw [idle_want]; intro i hi; cases hi
      · rw [idle_want]; intro i hi; cases hi
    · rw [idle_next]; exact h2 h
structure J (c : Cr) (R : List (List Int)) (b : Nat) (st : Ilk) : Prop where
  time : st.time = wid c + b
  gr : ∀ i ∈ st.greens, ∃ (a : Nat) (g : List Int), a + 1 = b ∧ R[a]? = some g ∧ i ∈ g
  en : ∀ p ∈ st.ended, ∃ (a : Nat) (g : List Int), a < b ∧ R[a]? = some g ∧ p.1 ∈ g ∧ p.2 = wid c + a + 1
  tk : st.taken = b
  gl : st.greens.length ≤ 4
  el : st.ended.length ≤ 4 * b
def hapW (b : Nat) (R : List (List Int)) : List Hap := ((enL b R).map fun p => ((p.1 : Int) + 1, p.2)).flatMap fun p => [.wish p.1 p.2, .tick]
theorem J.run (k : c.Ok) {R : List (List Int)} (hT : Tale c R) (hl : R.length ≤ 200) : ∀ (rest : List (List Int)) (b : Nat) (st : Ilk), R.drop b = rest → J c R b st → RunOk c st (hapW b rest) ∧ rowsH st (hapW b rest) = rest
  | [], b, st, _, _ => ⟨True.intro, rfl⟩
  | g :: rest, b, st, hd, j => by
    have hb : R[b]? = some g := by
      have := congrArg List.head? hd
      rw [List.head?_drop] at this
      exact this
    have hbl := (List.getElem?_eq_some_iff.mp hb).1
    have hd2 : R.drop (b + 1) = rest := by
      rw [← List.drop_drop, hd]; rfl
    have hgr := hT.gr g (List.mem_of_getElem? hb)
    have hgl := hgr.len k
    have hwant : (st.wish ((b : Int) + 1) g).want = g := by unfold Ilk.want Ilk.wish; simp
    have hj2 : J c R (b + 1) (st.wish ((b : Int) + 1) g).next := by
      unfold Ilk.next
      rw [hwant]
      refine ⟨?_, fun i hi => ⟨b, g, rfl, hb, hi⟩, fun p hp => ?_, ?_, hgl, ?_⟩
      · show st.time + 1 = _
        rw [j.time]; omega
      · rcases List.mem_append.mp (mem_sort2.mp hp) with hp | hp
        · obtain ⟨a, g', h1, h2, h3, h4⟩ := j.en p (List.mem_filter.mp hp).1
          exact ⟨a, g', by omega, h2, h3, h4⟩
        · obtain ⟨i, hi, rfl⟩ := List.mem_map.mp hp
          obtain ⟨a, g', h1, h2, h3⟩ := j.gr i (List.mem_filter.mp hi).1
          refine ⟨a, g', by omega, h2, h3, ?_⟩
          show st.time + 1 - 1 = _
          rw [j.time]; omega
      · show ((b : Int) + 1) = _
        omega
      · show (sort2 _).length ≤ _
        rw [sort2_len, List.length_append, List.length_map]
        have h1 := List.length_filter_le (fun p : Int × Int => !g.contains p.1) st.ended
        have h2 := List.length_filter_le (fun i => !g.contains i) st.greens
        have h3 := j.el
        have h4 := j.gl
        show (st.ended.filter fun p => !g.contains p.1).length + (st.greens.filter fun i => !g.contains i).length ≤ _
        omega
    obtain ⟨r1, r2⟩ := J.run k hT hl rest (b + 1) _ hd2 hj2
    have hw := wid_ge c
    refine ⟨⟨⟨hgr, (by show (1 : Int) ≤ (b : Int) + 1; omega), (by rw [j.tk]; show (b : Int) < (b : Int) + 1; omega)⟩, ⟨?_, r1⟩⟩, ?_⟩
    · refine ⟨by rw [hwant]; exact hgr, ?_, ?_, ?_, ?_⟩
      · show st.greens.length ≤ 1000
        have := j.gl; omega
      · show st.ended.length ≤ 1000
        have := j.el; omega
      · rw [hwant]; exact hT.row k hb
      · rw [hwant]
        intro i hi
        have ht : (st.wish ((b : Int) + 1) g).time = wid c + b := j.time
        refine ⟨by rw [ht]; omega, fun f hf l hlg => ?_⟩
        rw [ht]
        have hq : ∃ (a : Nat) (g' : List Int), a < b ∧ R[a]? = some g' ∧ f ∈ g' ∧ l = wid c + a + 1 := by
          rcases lastG_of (st.wish ((b : Int) + 1) g) f with h | ⟨l', h, h2⟩
          · rw [h] at hlg; cases hlg
          · rw [h] at hlg
            cases hlg
            rcases h2 with ⟨h2, h3⟩ | h2
            · obtain ⟨a, g', e1, e2, e3⟩ := j.gr f h2
              exact ⟨a, g', by omega, e2, e3, by rw [h3, ht]; omega⟩
            · obtain ⟨a, g', e1, e2, e3, e4⟩ := j.en (f, l) h2
              exact ⟨a, g', e1, e2, e3, e4⟩
        obtain ⟨a, g', ha, hga, hfa, rfl⟩ := hq
        have := hT.clr k ha hga hb hfa hi
        omega
    · show (st.wish ((b : Int) + 1) g).want :: rowsH (st.wish ((b : Int) + 1) g).next (hapW (b + 1) rest) = g :: rest
      rw [hwant, r2]
def hapL (c : Cr) (R : List (List Int)) : List Hap := List.replicate (wid c).toNat .tick ++ hapW 0 R
theorem run_all (k : c.Ok) {R : List (List Int)} (hT : Tale c R) (hl : R.length ≤ 200) : RunOk c (idle 0) (hapL c R) ∧ rowsH (idle 0) (hapL c R) = List.replicate (wid c).toNat [] ++ R := by
  have hw := (wid_ge c).1
  have e : (0 : Int) + ((wid c).toNat : Int) = wid c := by omega
  obtain ⟨h1, h2⟩ := idle_run (c := c) (wid c).toNat 0 (hapW 0 R)
  rw [e] at h1 h2
  obtain ⟨r1, r2⟩ := J.run k hT hl R 0 (idle (wid c)) rfl ⟨by simp [idle], (fun i h => by simp [idle] at h), (fun i h => by simp [idle] at h), rfl, by simp [idle], by simp [idle]⟩
  refine ⟨h2 r1, ?_⟩
  unfold hapL
  rw [h1, r2]
theorem hapW_len (R : List (List Int)) (b : Nat) : (hapW b R).length = 2 * R.length := by
  induction R generalizing b with
  | nil => rfl
  | cons g R ih =>
    have := ih (b + 1)
    simp only [hapW, enL, List.map_cons, List.flatMap_cons, List.length_append, List.length_cons, List.length_nil] at this ⊢
    omega
end
end Gh
set_option linter.all false
set_option maxRecDepth 10000
namespace Gh
section
variable {Φ : String → List T → Src → Option (T × Src)} {c : Cr}
abbrev planB : List S := [(.asg (.var 6) (.bin .sub (.var 3) (.call "_law_clearing" [(.var 1), (.idx (.var 4) (.var 5))]))), (.ite (.and (.cmp .gt (.var 6) (.cI 0)) (.cmp .gt (.call "_law_pick" [(.var 0), (.cI 3)]) (.cI 0))) [(.asg (.var 7) (.bin .add (.cI 1) (.call "_law_pick" [(.var 0), (.var 6)]))), (.share 7), (.asgs [(.var 2), (.var 3)] [(.bin .add (.var 2) (.tup [(.tup [(.var 5), (.var 7)])])), (.bin .sub (.bin .sub (.var 3) (.var 7)) (.call "_law_clearing" [(.var 1), (.idx (.var 4) (.var 5))]))])] [])]
def PickOk (Φ : String → List T → Src → Option (T × Src)) : Prop := ∀ m st, m < 1073741824 → Φ "_law_pick" [.src, .int m] (some st) = some (.int (pickSt m st).1, some (pickSt m st).2)
def OrderOk (Φ : String → List T → Src → Option (T × Src)) : Prop := ∀ xs st, xs.length ≤ 1000 → Φ "_law_any_order" [.src, .lst xs] (some st) = some (.lst (drawOrder xs.length xs st).1, some (drawOrder xs.length xs st).2)
theorem plan_ev (k : c.Ok) (hp : PickOk Φ) (ho : OrderOk Φ) (hs : ∀ s, Φ "_law_stages" [c.e] s = some (.lst ((stg c).map eR), s)) (hc : ∀ g s, Φ "_law_clearing" [c.e, eR g] s = some (.int (clg c g), s)) (st : St) :
    ∃ plan st', PlanOk c plan ∧ evFn Φ d__law_draw_plan [.src, c.e] (some st) = some (eP plan, some st') := by
  have hl1 := k.l1
  have hl2 := k.l2
  have hsl := stg_len k
  have hgen : ∀ (L : List Int) (plan : Plan) (rest : Int) (st : St) (v5 v6 v7 : Slot), (∀ i ∈ L, InS c i) → L.Nodup → (∀ i ∈ L, i ∉ plan.map (·.1)) → (∀ p ∈ plan, InS c p.1 ∧ 1 ≤ p.2) → (plan.map (·.1)).Nodup → needP c plan + rest = c.len → 0 ≤ rest → plan.length + L.length ≤ 1000 →
      ∃ plan' st' r' v5' v6' v7', PlanOk c plan' ∧ forL (evSs Φ planB) (.var 5) (L.map T.int)
        [.sh .src, .sh c.e, .sh (eP plan), .sh (.int rest), .sh (.lst ((stg c).map eR)), v5, v6, v7] (some st) = some (.nx, [.sh .src, .sh c.e, .sh (eP plan'), .sh (.int r'), .sh (.lst ((stg c).map eR)), v5', v6', v7'], some st') := by
    intro L
    induction L with
    | nil =>
      intro plan rest st v5 v6 v7 _ _ _ h1 h2 h3 h4 _
      exact ⟨plan, st, rest, v5, v6, v7, ⟨h1, h2, by omega⟩, rfl⟩
    | cons i L ih =>
      intro plan rest st v5 v6 v7 hin hnd hni h1 h2 h3 h4 h5
      rw [List.nodup_cons] at hnd
      have hii := hin i List.mem_cons_self
      have hin2 : ∀ i ∈ L, InS c i := fun j hj => hin j (List.mem_cons_of_mem _ hj)
      have hni2 : ∀ j ∈ L, j ∉ plan.map (·.1) := fun j hj => hni j (List.mem_cons_of_mem _ hj)
      have hcl := clg_ge (c := c) (st_ c i)
      have hnn := need_nn (c := c) plan fun p hp => (h1 p hp).2
      simp only [List.length_cons] at h5
      have ea : asgTg (.var 5) (.int i) [.sh .src, .sh c.e, .sh (eP plan), .sh (.int rest), .sh (.lst ((stg c).map eR)), v5, v6, v7] = some [.sh .src, .sh c.e, .sh (eP plan), .sh (.int rest), .sh (.lst ((stg c).map eR)), .sh (.int i), v6, v7] := rfl
      have q1 : evE Φ (.bin .sub (.var 3) (.call "_law_clearing" [(.var 1), (.idx (.var 4) (.var 5))])) false [.sh .src, .sh c.e, .sh (eP plan), .sh (.int rest), .sh (.lst ((stg c).map eR)), .sh (.int i), v6, v7] (some st) = some (.int (rest - clg c (st_ c i)), some st) :=
        ev_bin (x := .int rest) (y := .int (clg c (st_ c i))) (s1 := some st) rfl (ev_call (xs := [c.e, eR (st_ c i)]) (s1 := some st) (es_cons rfl (es_cons (ev_idx (s1 := some st) rfl rfl hii.ixL) es_nil)) (hc _ _)) rfl
      have skip : ∀ st1 : St, evE Φ (.and (.cmp .gt (.var 6) (.cI 0)) (.cmp .gt (.call "_law_pick" [(.var 0), (.cI 3)]) (.cI 0))) true [.sh .src, .sh c.e, .sh (eP plan), .sh (.int rest), .sh (.lst ((stg c).map eR)), .sh (.int i), .sh (.int (rest - clg c (st_ c i))), v7] (some st) = some (.bl false, some st1) →
          ∃ plan' st' r' v5' v6' v7', PlanOk c plan' ∧ forL (evSs Φ planB) (.var 5) ((i :: L).map T.int)
            [.sh .src, .sh c.e, .sh (eP plan), .sh (.int rest), .sh (.lst ((stg c).map eR)), v5, v6, v7] (some st) = some (.nx, [.sh .src, .sh c.e, .sh (eP plan'), .sh (.int r'), .sh (.lst ((stg c).map eR)), v5', v6', v7'], some st') := by
        intro st1 hf
        obtain ⟨plan', st', r', v5', v6', v7', g1, g2⟩ := ih plan rest st1 (.sh (.int i)) (.sh (.int (rest - clg c (st_ c i)))) v7 hin2 hnd.2 hni2 h1 h2 h3 h4 (by omega)
        refine ⟨plan', st', r', v5', v6', v7', g1, ?_⟩
        have q3 : evSs Φ planB [.sh .src, .sh c.e, .sh (eP plan), .sh (.int rest), .sh (.lst ((stg c).map eR)), .sh (.int i), v6, v7] (some st) = some (.nx, [.sh .src, .sh c.e, .sh (eP plan), .sh (.int rest), .sh (.lst ((stg c).map eR)), .sh (.int i), .sh (.int (rest - clg c (st_ c i))), v7], some st1) := x_nx (x_asg q1 rfl rfl) (x_one (x_f hf rfl))
        simp only [List.map_cons, forL, ea, q3]
        exact g2
      by_cases hr : 0 < rest - clg c (st_ c i)
      · have hp3 : evE Φ (.call "_law_pick" [(.var 0), (.cI 3)]) true [.sh .src, .sh c.e, .sh (eP plan), .sh (.int rest), .sh (.lst ((stg c).map eR)), .sh (.int i), .sh (.int (rest - clg c (st_ c i))), v7] (some st) = some (.int (pickSt 3 st).1, some (pickSt 3 st).2) := ev_call (xs := [.src, .int 3]) (s1 := some st) rfl (hp 3 st (by decide))
        by_cases hpk : 0 < (pickSt 3 st).1
        · have hrm := pick_rng (st := (pickSt 3 st).2) hr
          generalize hst1 : (pickSt 3 st).2 = st1 at hp3 hrm
          generalize htk : 1 + (pickSt (rest - clg c (st_ c i)) st1).1 = tk
          have hcond : evE Φ (.and (.cmp .gt (.var 6) (.cI 0)) (.cmp .gt (.call "_law_pick" [(.var 0), (.cI 3)]) (.cI 0))) true [.sh .src, .sh c.e, .sh (eP plan), .sh (.int rest), .sh (.lst ((stg c).map eR)), .sh (.int i), .sh (.int (rest - clg c (st_ c i))), v7] (some st) = some (.bl true, some st1) := by
            refine ev_and_y (s1 := some st) rfl (decide_eq_true hr) ?_
            refine ev_bz (ev_cmp (s1 := some st1) (y := .int 0) hp3 rfl rfl) (decide_eq_true hpk)
          have q7 : evE Φ (.bin .add (.cI 1) (.call "_law_pick" [(.var 0), (.var 6)])) false [.sh .src, .sh c.e, .sh (eP plan), .sh (.int rest), .sh (.lst ((stg c).map eR)), .sh (.int i), .sh (.int (rest - clg c (st_ c i))), v7] (some st1) = some (.int tk, some (pickSt (rest - clg c (st_ c i)) st1).2) := by
            rw [← htk]
            exact ev_bin (x := .int 1) (s1 := some st1) rfl (ev_call (xs := [.src, .int (rest - clg c (st_ c i))]) (s1 := some st1) rfl (hp _ st1 (by omega))) rfl
          generalize (pickSt (rest - clg c (st_ c i)) st1).2 = st2 at q7
          have hgs : evS Φ (.asgs [(.var 2), (.var 3)] [(.bin .add (.var 2) (.tup [(.tup [(.var 5), (.var 7)])])), (.bin .sub (.bin .sub (.var 3) (.var 7)) (.call "_law_clearing" [(.var 1), (.idx (.var 4) (.var 5))]))]) [.sh .src, .sh c.e, .sh (eP plan), .sh (.int rest), .sh (.lst ((stg c).map eR)), .sh (.int i), .sh (.int (rest - clg c (st_ c i))), .sh (.int tk)] (some st2) =
              some (.nx, [.sh .src, .sh c.e, .sh (eP (plan ++ [(i, tk)])), .sh (.int (rest - tk - clg c (st_ c i))), .sh (.lst ((stg c).map eR)), .sh (.int i), .sh (.int (rest - clg c (st_ c i))), .sh (.int tk)], some st2) := by
            have e1 : evE Φ (.bin .add (.var 2) (.tup [(.tup [(.var 5), (.var 7)])])) false [.sh .src, .sh c.e, .sh (eP plan), .sh (.int rest), .sh (.lst ((stg c).map eR)), .sh (.int i), .sh (.int (rest - clg c (st_ c i))), .sh (.int tk)] (some st2) = some (eP (plan ++ [(i, tk)]), some st2) := by
              refine ev_bin (x := eP plan) (y := .tup [e2 (i, tk)]) (s1 := some st2) rfl rfl ?_
              show (if _ ≤ line then _ else _) = _
              rw [if_pos (by rw [List.length_map]; simp [line]; omega)]
              simp [eP]
            have e2 : evE Φ (.bin .sub (.bin .sub (.var 3) (.var 7)) (.call "_law_clearing" [(.var 1), (.idx (.var 4) (.var 5))])) false [.sh .src, .sh c.e, .sh (eP plan), .sh (.int rest), .sh (.lst ((stg c).map eR)), .sh (.int i), .sh (.int (rest - clg c (st_ c i))), .sh (.int tk)] (some st2) = some (.int (rest - tk - clg c (st_ c i)), some st2) :=
              ev_bin (x := .int (rest - tk)) (y := .int (clg c (st_ c i))) (s1 := some st2) rfl (ev_call (xs := [c.e, eR (st_ c i)]) (s1 := some st2) (es_cons rfl (es_cons (ev_idx (s1 := some st2) rfl rfl hii.ixL) es_nil)) (hc _ _)) rfl
            have := es_cons e1 (es_cons e2 es_nil)
            simp only [evS, this]
            rfl
          have hneed : needP c (plan ++ [(i, tk)]) = needP c plan + (tk + clg c (st_ c i)) := by simp [needP]
          obtain ⟨plan', st', r', v5', v6', v7', g1, g2⟩ := ih (plan ++ [(i, tk)]) (rest - tk - clg c (st_ c i)) st2 (.sh (.int i)) (.sh (.int (rest - clg c (st_ c i)))) (.sh (.int tk)) hin2 hnd.2 (fun j hj => by
              rw [List.map_append, List.mem_append]
              rintro (h | h)
              · exact hni2 j hj h
              · simp at h; subst h; exact hnd.1 hj) (fun p hpm => by
              rcases List.mem_append.mp hpm with h | h
              · exact h1 p h
              · simp at h; subst h; exact ⟨hii, by show 1 ≤ tk; omega⟩) (by
              rw [List.map_append, List.nodup_append]
              exact ⟨h2, by simp, fun a ha b hb e => hni i List.mem_cons_self (by simp at hb; rw [← hb, ← e]; exact ha)⟩) (by rw [hneed]; omega) (by omega) (by simp; omega)
          refine ⟨plan', st', r', v5', v6', v7', g1, ?_⟩
          have q3 : evSs Φ planB [.sh .src, .sh c.e, .sh (eP plan), .sh (.int rest), .sh (.lst ((stg c).map eR)), .sh (.int i), v6, v7] (some st) = some (.nx, [.sh .src, .sh c.e, .sh (eP (plan ++ [(i, tk)])), .sh (.int (rest - tk - clg c (st_ c i))), .sh (.lst ((stg c).map eR)), .sh (.int i), .sh (.int (rest - clg c (st_ c i))), .sh (.int tk)], some st2) := x_nx (x_asg q1 rfl rfl) (x_one (x_t hcond (x_nx (x_asg q7 rfl rfl) (x_nx (x_share rfl rfl) (x_one hgs)))))
          simp only [List.map_cons, forL, ea, q3]
          exact g2
        · refine skip (pickSt 3 st).2 (ev_and_y (s1 := some st) rfl (decide_eq_true hr) (ev_bz (ev_cmp (y := .int 0) hp3 rfl rfl) (decide_eq_false hpk)))
      · exact skip st (ev_and_z (s1 := some st) rfl (decide_eq_false hr))
  have hperm := drawOrder_perm (stg c).length ((iota (stg c).length).map T.int) st (by simp [iota_len])
  obtain ⟨L, hL1, hL2⟩ := perm_ints hperm
  have hio : (iota (stg c).length).Nodup := by
    unfold iota
    rw [List.nodup_iff_pairwise_ne, List.pairwise_map]
    exact (List.nodup_iff_pairwise_ne.mp List.nodup_range).imp fun h e => h (by omega)
  have hmem : ∀ i ∈ L, InS c i := fun i hi => mem_iota.mp (hL2.mem_iff.mp hi)
  have hLl : L.length = (stg c).length := by rw [hL2.length_eq, iota_len]
  generalize hst1 : (drawOrder (stg c).length ((iota (stg c).length).map T.int) st).2 = st1
  obtain ⟨plan, st', r', v5', v6', v7', g1, g2⟩ := hgen L [] c.len st1 .un .un .un hmem (hL2.nodup_iff.mpr hio) (fun i _ h => by cases h) (fun p h => by cases h) (by simp) (by simp [needP]) (by omega) (by simp; omega)
  refine ⟨plan, st', g1, ?_⟩
  have h0 : evS Φ (.asgs [(.var 2), (.var 3), (.var 4)] [(.tup []), (.idx (.var 1) (.cI 2)), (.call "_law_stages" [(.var 1)])]) [.sh .src, .sh c.e, .un, .un, .un, .un, .un, .un] (some st) = some (.nx, [.sh .src, .sh c.e, .sh (eP []), .sh (.int c.len), .sh (.lst ((stg c).map eR)), .un, .un, .un], some st) := by
    have := es_cons (Φ := Φ) (e := .tup []) (x := eP []) (env := [.sh .src, .sh c.e, .un, .un, .un, .un, .un, .un]) (s := some st) (s1 := some st) rfl (es_cons (e := .idx (.var 1) (.cI 2)) (x := .int c.len) (s1 := some st) rfl (es_cons (e := .call "_law_stages" [(.var 1)]) (ev_call (xs := [c.e]) (s1 := some st) rfl (hs _)) es_nil))
    simp only [evS, this]
    rfl
  have hit : (evE Φ (.call "_law_any_order" [(.var 0), (.lrange [(.bi .len (.var 4))])]) false [.sh .src, .sh c.e, .sh (eP []), .sh (.int c.len), .sh (.lst ((stg c).map eR)), .un, .un, .un] (some st)).bind seqS = some (L.map T.int, some st1) := by
    refine sq_of (x := .lst (L.map T.int)) (ev_call (xs := [.src, .lst ((iota (stg c).length).map T.int)]) (s1 := some st) (es_cons rfl (es_cons (ev_lrange (n := (stg c).length) (ev_bi (x := .lst ((stg c).map eR)) rfl (by show some (T.int _) = _; rw [List.length_map])) (by omega)) es_nil)) ?_) rfl
    rw [ho _ st (by simp [iota_len]; omega)]
    rw [List.length_map, iota_len, hL1, hst1]
  exact fn_rt rfl (x_nx h0 (x_nx (x_for hit g2) (x_nx (x_share rfl rfl) (x_rt (x_ret rfl)))))
end
end Gh
set_option linter.all false
set_option maxRecDepth 10000
namespace Gh
def wT : Option Int → T
  | none => .non
  | some w => .int w
def mvT (p : Int × Option Int) : T := .tup [.int p.1, wT p.2]
theorem data_mv (p : Int × Option Int) : data (mvT p) = true := by
  obtain ⟨a, b⟩ := p
  cases b <;> simp [data, mvT, wT, flat, flats, depth, depths]
theorem data_mvs (M : List (Int × Option Int)) : data (.lst (M.map mvT)) = true := by
  have h : flats (M.map mvT) = true ∧ depths (M.map mvT) ≤ 1 := by
    induction M with
    | nil => exact ⟨rfl, by simp [depths]⟩
    | cons p M ih =>
      obtain ⟨a, b⟩ := p
      cases b <;> simp [mvT, wT, flat, flats, depth, depths] at ih ⊢ <;> exact ⟨ih.1, by omega⟩
  have h2 := h.2
  rw [data, flat, h.1, Bool.true_and, decide_eq_true_eq, depth]
  omega
theorem ix_intL {xs : List T} {i : Int} {x : T} (h0 : 0 ≤ i) (h : xs[i.toNat]? = some x) : idxT (.lst xs) (.int i) = some x := by
  have e : i = (i.toNat : Int) := by omega
  rw [e]
  exact ix_natL h
section
variable {Φ : String → List T → Src → Option (T × Src)}
theorem pick_e (hp : PickOk Φ) {env : List Slot} {e : E} {m : Bool} {st st1 : St} {i : Int} {v : Nat} (h0 : env[v]? = some (.sh .src)) (h : evE Φ e false env (some st) = some (.int i, some st1)) (hi : i < 1073741824) (hns : isSt e = false) : evE Φ (.call "_law_pick" [.var v, e]) m env (some st) = some (.int (pickSt i st1).1, some (pickSt i st1).2) := by
  refine ev_call (xs := [.src, .int i]) (s1 := some st1) (es_cons (x := .src) (s1 := some st) ?_ (es_cons h es_nil hns)) (hp i st1 hi)
  simp only [evE, h0]
abbrev crB2 : List S := [(.asg (.var 8) (.tup [(.var 5), (.idx (.var 6) (.call "_law_pick" [(.var 0), (.bi .len (.var 6))]))])), (.ite (.cmp .nin (.var 8) (.var 4)) [(.app 4 (.var 8))] [])]
abbrev crB1 : List S := [(.asg (.var 6) (.bin .add (.lst [.cN]) (.comp (.var 12) (.var 12) (.range [(.var 1)]) (.cmp .ne (.var 12) (.var 5)) [12]))), (.for_ (.var 7) (.range [(.bin .add (.cI 1) (.bi .int (.cmp .eq (.call "_law_pick" [(.var 0), (.cI 3)]) (.cI 0))))]) crB2)]
abbrev crB4 : List S := [(.ite (.cmp .eq (.call "_law_pick" [(.var 0), (.cI 2)]) (.cI 0)) [(.app 9 (.tup [(.var 10), (.var 11), (.call "_law_pick" [(.var 0), (.cI 3)]), (.call "_law_pick" [(.var 0), (.cI 3)])]))] [])]
abbrev crB3 : List S := [(.for_ (.var 11) (.range [(.bin .add (.var 10) (.cI 1)), (.bi .len (.var 4))]) crB4)]
theorem crossing_ev (hp : PickOk Φ) (ho : OrderOk Φ) {mine : List Int} {n : Nat} {len : Int} (hn : n ≤ 8) (hm : mine ≠ []) (hml : mine.length ≤ 8) (hl : 1 ≤ len ∧ len ≤ 1000) (st : St) :
    ∃ (c : Cr) (st' : St), c.Ok ∧ c.len = len ∧ evFn Φ d__law_draw_crossing [.src, .int n, .lst (eL mine), .int len] (some st) = some (c.e, some st') := by
  -- the movements
  obtain ⟨e1, s1, l1, M, v5, v6, v7, v8, st1, l2, l3, l4, l5⟩ := forL_inv (tg := .var 5) (body := evSs Φ crB1)
    (fun b env s' => ∃ (M : List (Int × Option Int)) (v5 v6 v7 v8 : Slot) (st1 : St), env = [.sh .src, .sh (.int n), .sh (.lst (eL mine)), .sh (.int len), .ow (.lst (M.map mvT)), v5, v6, v7, v8, .un, .un, .un, .un] ∧ s' = some st1 ∧ M.length ≤ 2 * b ∧ (0 < b → M ≠ [])) (mine.map T.int) 0 [.sh .src, .sh (.int n), .sh (.lst (eL mine)), .sh (.int len), .ow (.lst []), .un, .un, .un, .un, .un, .un, .un, .un] (some st) ⟨[], _, _, _, _, st, rfl, rfl, by simp, by simp⟩ (by
    rintro b x env s' hb ⟨M, v5, v6, v7, v8, st1, rfl, rfl, g1, g2⟩
    have hbl : b < mine.length := by simpa using (List.getElem?_eq_some_iff.mp hb).1
    rw [List.getElem?_map, Option.map_eq_some_iff] at hb
    obtain ⟨q, hq, rfl⟩ := hb
    rw [Nat.zero_add] at g1 g2 ⊢
    let ways : List (Option Int) := none :: ((iota n).filter fun o => decide (o ≠ q)).map some
    have hwl : ways.length ≤ 9 := by
      have := List.length_filter_le (fun o => decide (o ≠ q)) (iota n)
      rw [iota_len] at this
      show (((iota n).filter fun o => decide (o ≠ q)).map some).length + 1 ≤ 9
      rw [List.length_map]; omega
    have hw0 : 0 < ways.length := by simp [ways]
    have q1 : evE Φ (.bin .add (.lst [.cN]) (.comp (.var 12) (.var 12) (.range [(.var 1)]) (.cmp .ne (.var 12) (.var 5)) [12])) false [.sh .src, .sh (.int n), .sh (.lst (eL mine)), .sh (.int len), .ow (.lst (M.map mvT)), .sh (.int q), v6, v7, v8, .un, .un, .un, .un] (some st1) = some (.lst (ways.map wT), some st1) := by
      refine ev_bin (x := .lst [.non]) (y := .lst (((iota n).filter fun o => decide (o ≠ q)).map T.int)) (s1 := some st1) rfl (ev_compP (enc := T.int) (s1 := some st1) (iota n) _ T.int (rng1 rfl (by omega)) rfl (by rw [iota_len]; omega) fun o ho => ⟨_, rfl, ev_cmp (s1 := some st1) rfl rfl int_ne, fun _ => rfl⟩) ?_
      have := List.length_filter_le (fun o => decide (o ≠ q)) (iota n)
      rw [iota_len] at this
      show (if _ ≤ line then _ else _) = _
      rw [if_pos (by rw [List.length_map]; simp [line] at *; omega)]
      simp [ways, wT]
    have hp3 := pick_rng (m := 3) (st := st1) (by decide)
    let laps : Nat := 1 + if (pickSt 3 st1).1 = 0 then 1 else 0
    have hlaps : 1 ≤ laps ∧ laps ≤ 2 := by simp only [laps]; split <;> omega
    have q2 : evE Φ (.bin .add (.cI 1) (.bi .int (.cmp .eq (.call "_law_pick" [(.var 0), (.cI 3)]) (.cI 0)))) true [.sh .src, .sh (.int n), .sh (.lst (eL mine)), .sh (.int len), .ow (.lst (M.map mvT)), .sh (.int q), .ow (.lst (ways.map wT)), v7, v8, .un, .un, .un, .un] (some st1) = some (.int laps, some (pickSt 3 st1).2) := by
      refine ev_bin (x := .int 1) (y := .int (if (pickSt 3 st1).1 = 0 then 1 else 0)) (s1 := some st1) rfl (ev_bi (ev_cmp (y := .int 0) (pick_e hp rfl rfl (by decide) rfl) rfl int_eq) ?_) ?_
      · show some (T.int _) = _
        congr 2
        by_cases h0 : (pickSt 3 st1).1 = 0 <;> simp [h0]
      · show some (T.int _) = _
        congr 2
        simp only [laps]
        split <;> rfl
    generalize (pickSt 3 st1).2 = st2 at q2
    obtain ⟨e1, s1, l1, M', v7', v8', st3, l2, l3, l4, l5⟩ := forL_inv (tg := .var 7) (body := evSs Φ crB2)
      (fun d env s' => ∃ (M' : List (Int × Option Int)) (v7 v8 : Slot) (st3 : St), env = [.sh .src, .sh (.int n), .sh (.lst (eL mine)), .sh (.int len), .ow (.lst (M'.map mvT)), .sh (.int q), .ow (.lst (ways.map wT)), v7, v8, .un, .un, .un, .un] ∧ s' = some st3 ∧ M'.length ≤ 2 * b + d ∧ (0 < d → M' ≠ [])) ((iota laps).map T.int) 0 [.sh .src, .sh (.int n), .sh (.lst (eL mine)), .sh (.int len), .ow (.lst (M.map mvT)), .sh (.int q), .ow (.lst (ways.map wT)), v7, v8, .un, .un, .un, .un] (some st2) ⟨M, _, _, _, rfl, rfl, by omega, by simp⟩ (by
      rintro d y env s' hd ⟨M', v7, v8, st3, rfl, rfl, k1, k2⟩
      obtain ⟨hdl, rfl⟩ := iota_get hd
      rw [Nat.zero_add] at k1 k2 ⊢
      have hpw := pick_rng (m := (ways.length : Int)) (st := st3) (by omega)
      have hkw : (pickSt ways.length st3).1.toNat < ways.length := by omega
      let mv : Int × Option Int := (q, ways[(pickSt ways.length st3).1.toNat])
      have r1 : evE Φ (.tup [(.var 5), (.idx (.var 6) (.call "_law_pick" [(.var 0), (.bi .len (.var 6))]))]) false [.sh .src, .sh (.int n), .sh (.lst (eL mine)), .sh (.int len), .ow (.lst (M'.map mvT)), .sh (.int q), .ow (.lst (ways.map wT)), .sh (.int d), v8, .un, .un, .un, .un] (some st3) = some (mvT mv, some (pickSt ways.length st3).2) := by
        refine ev_tup (xs := [.int q, wT ways[(pickSt ways.length st3).1.toNat]]) (es_cons (s1 := some st3) rfl (es_cons (ev_idx (x := .lst (ways.map wT)) (y := .int (pickSt ways.length st3).1) (s1 := some st3) rfl (pick_e hp (st1 := st3) rfl (ev_bi (x := .lst (ways.map wT)) rfl (by show some (T.int _) = _; rw [List.length_map])) (by omega) rfl) ?_) es_nil)) (by simp [line])
        refine ix_intL hpw.1 ?_
        rw [List.getElem?_map, List.getElem?_eq_getElem hkw]; rfl
      generalize (pickSt ways.length st3).2 = st4 at r1
      have r2 : evE Φ (.cmp .nin (.var 8) (.var 4)) true [.sh .src, .sh (.int n), .sh (.lst (eL mine)), .sh (.int len), .ow (.lst (M'.map mvT)), .sh (.int q), .ow (.lst (ways.map wT)), .sh (.int d), .sh (mvT mv), .un, .un, .un, .un] (some st4) = some (.bl (!inT (mvT mv) (M'.map mvT)), some st4) := by
        refine ev_cmp (x := mvT mv) (y := .lst (M'.map mvT)) (s1 := some st4) rfl rfl ?_
        show (if data (mvT mv) && data (.lst (M'.map mvT)) then some (!inT (mvT mv) (M'.map mvT)) else none) = _
        rw [data_mv, data_mvs]; rfl
      cases hin : inT (mvT mv) (M'.map mvT) with
      | true =>
        refine ⟨_, _, _, rfl, x_nx (x_asg r1 rfl rfl) (x_one (x_fz r2 (by rw [hin]; rfl) rfl)), M', _, _, st4, rfl, rfl, by omega, fun _ e => ?_⟩
        subst e
        cases hin
      | false =>
        refine ⟨_, _, _, rfl, x_nx (x_asg r1 rfl rfl) (x_one (x_tz r2 (by rw [hin]; rfl) (x_one (x_app (t := mvT mv) (s1 := some st4) rfl rfl (by rw [List.length_map]; unfold line; omega))))), M' ++ [mv], _, _, st4, (by rw [List.map_append]; rfl), rfl, by simp; omega, fun _ e => by simp at e⟩)
    subst l3
    simp only [List.length_map, iota_len, Nat.zero_add] at l4 l5
    subst l2
    exact ⟨_, _, _, rfl, x_nx (x_asg q1 rfl rfl) (x_one (x_for (xs := (iota laps).map T.int) (rng1 q2 (by omega)) l1)), M', _, _, _, _, st3, rfl, rfl, by omega, fun _ => l5 (by omega)⟩)
  subst l3
  subst l2
  simp only [List.length_map, Nat.zero_add] at l4 l5
  have hM0 : M ≠ [] := l5 (List.length_pos_iff.mpr hm)
  have hMl : 0 < M.length := List.length_pos_iff.mpr hM0
  -- their order
  have hperm := (drawOrder_perm (M.map mvT).length (M.map mvT) st1 rfl).length_eq
  have hord := ho (M.map mvT) st1 (by rw [List.length_map]; omega)
  generalize hmv : (drawOrder (M.map mvT).length (M.map mvT) st1).1.take 4 = mv
  generalize (drawOrder (M.map mvT).length (M.map mvT) st1).2 = st2 at hord
  have hmvl : 1 ≤ mv.length ∧ mv.length ≤ 4 := by
    rw [← hmv, List.length_take, hperm, List.length_map]
    omega
  have h2 : evS Φ (.asgs [(.var 4), (.var 9)] [(.sl (.call "_law_any_order" [(.var 0), (.var 4)]) .cN (.cI 4)), (.lst [])]) [.sh .src, .sh (.int n), .sh (.lst (eL mine)), .sh (.int len), .sh (.lst (M.map mvT)), v5, v6, v7, v8, .un, .un, .un, .un] (some st1) =
      some (.nx, [.sh .src, .sh (.int n), .sh (.lst (eL mine)), .sh (.int len), .ow (.lst mv), v5, v6, v7, v8, .ow (.lst []), .un, .un, .un], some st2) := by
    have hcall : evE Φ (.call "_law_any_order" [(.var 0), (.var 4)]) true [.sh .src, .sh (.int n), .sh (.lst (eL mine)), .sh (.int len), .sh (.lst (M.map mvT)), v5, v6, v7, v8, .un, .un, .un, .un] (some st1) = some (.lst (drawOrder (M.map mvT).length (M.map mvT) st1).1, some st2) := ev_call (xs := [.src, .lst (M.map mvT)]) (s1 := some st1) rfl hord
    have hsl : evE Φ (.sl (.call "_law_any_order" [(.var 0), (.var 4)]) .cN (.cI 4)) false [.sh .src, .sh (.int n), .sh (.lst (eL mine)), .sh (.int len), .sh (.lst (M.map mvT)), v5, v6, v7, v8, .un, .un, .un, .un] (some st1) = some (.lst mv, some st2) := by
      simp only [evE] at hcall ⊢
      rw [hcall]
      simp only [bnd, isCN, Bool.not_false, Bool.and_self, if_true]
      show (slT _ .non (.int 4)).map _ = _
      have : cut (drawOrder (M.map mvT).length (M.map mvT) st1).1 none (some 4) = mv := by
        rw [← hmv]
        unfold cut sIx
        simp only [if_neg (show ¬ (4 : Int) < 0 by decide), List.drop_zero, Nat.sub_zero]
        rw [List.take_eq_take_iff]
        simp
      simp only [slT, bound, this]
      rfl
    have := es_cons hsl (es_cons (e := .lst []) (x := .lst []) (s1 := some st2) rfl es_nil)
    simp only [evS, this]
    rfl
  -- who crosses whom
  let okX (X : List Four) : Prop := ∀ q ∈ X, 0 ≤ q.1 ∧ q.1 < q.2.1 ∧ q.2.1 < (mv.length : Int) ∧ 0 ≤ q.2.2.1 ∧ q.2.2.1 ≤ 2 ∧ 0 ≤ q.2.2.2 ∧ q.2.2.2 ≤ 2
  obtain ⟨e2, s2, m1, X, w10, w11, st3, m2, m3, m4, m5⟩ := forL_inv (tg := .var 10) (body := evSs Φ crB3)
    (fun b env s' => ∃ (X : List Four) (v10 v11 : Slot) (st3 : St), env = [.sh .src, .sh (.int n), .sh (.lst (eL mine)), .sh (.int len), .ow (.lst mv), v5, v6, v7, v8, .ow (.lst (X.map e4)), v10, v11, .un] ∧ s' = some st3 ∧ X.length ≤ 4 * b ∧ okX X) ((iota mv.length).map T.int) 0 [.sh .src, .sh (.int n), .sh (.lst (eL mine)), .sh (.int len), .ow (.lst mv), v5, v6, v7, v8, .ow (.lst []), .un, .un, .un] (some st2) ⟨[], _, _, st2, rfl, rfl, by simp, fun q h => by cases h⟩ (by
    rintro b x env s' hb ⟨X, v10, v11, st3, rfl, rfl, g1, g2⟩
    obtain ⟨hbn, rfl⟩ := iota_get hb
    rw [Nat.zero_add] at g1 ⊢
    obtain ⟨e1, s1, l1, X', v11', st4, l2, l3, l4, l5⟩ := forL_inv (tg := .var 11) (body := evSs Φ crB4)
      (fun d env s' => ∃ (X : List Four) (v11 : Slot) (st3 : St), env = [.sh .src, .sh (.int n), .sh (.lst (eL mine)), .sh (.int len), .ow (.lst mv), v5, v6, v7, v8, .ow (.lst (X.map e4)), .sh (.int b), v11, .un] ∧ s' = some st3 ∧ X.length ≤ 4 * b + d ∧ okX X) ((iota ((mv.length : Int) - ((b : Int) + 1)).toNat).map fun k => .int ((b : Int) + 1 + k)) 0 [.sh .src, .sh (.int n), .sh (.lst (eL mine)), .sh (.int len), .ow (.lst mv), v5, v6, v7, v8, .ow (.lst (X.map e4)), .sh (.int b), v11, .un] (some st3) ⟨X, _, st3, rfl, rfl, by omega, g2⟩ (by
      rintro d y env s' hd ⟨X, v11, st3, rfl, rfl, k1, k2⟩
      rw [List.getElem?_map, Option.map_eq_some_iff] at hd
      obtain ⟨z, hz, rfl⟩ := hd
      have hz1 := mem_iota.mp (List.mem_of_getElem? hz)
      have hdl := (List.getElem?_eq_some_iff.mp hz).1
      rw [iota_len] at hdl
      rw [Nat.zero_add] at k1 ⊢
      have c1 : evE Φ (.cmp .eq (.call "_law_pick" [(.var 0), (.cI 2)]) (.cI 0)) true [.sh .src, .sh (.int n), .sh (.lst (eL mine)), .sh (.int len), .ow (.lst mv), v5, v6, v7, v8, .ow (.lst (X.map e4)), .sh (.int b), .sh (.int ((b : Int) + 1 + z)), .un] (some st3) = some (.bl (decide ((pickSt 2 st3).1 = 0)), some (pickSt 2 st3).2) := ev_cmp (y := .int 0) (pick_e hp rfl rfl (by decide) rfl) rfl int_eq
      generalize (pickSt 2 st3).2 = st4 at c1
      by_cases h0 : (pickSt 2 st3).1 = 0
      · have pa := pick_rng (m := 3) (st := st4) (by decide)
        have pb := pick_rng (m := 3) (st := (pickSt 3 st4).2) (by decide)
        have c2 : evE Φ (.tup [(.var 10), (.var 11), (.call "_law_pick" [(.var 0), (.cI 3)]), (.call "_law_pick" [(.var 0), (.cI 3)])]) false [.sh .src, .sh (.int n), .sh (.lst (eL mine)), .sh (.int len), .ow (.lst mv), v5, v6, v7, v8, .ow (.lst (X.map e4)), .sh (.int b), .sh (.int ((b : Int) + 1 + z)), .un] (some st4) = some (e4 ((b : Int), (b : Int) + 1 + z, (pickSt 3 st4).1, (pickSt 3 (pickSt 3 st4).2).1), some (pickSt 3 (pickSt 3 st4).2).2) :=
          ev_tup (es_cons (s1 := some st4) rfl (es_cons (s1 := some st4) rfl (es_cons (pick_e hp rfl rfl (by decide) rfl) (es_cons (pick_e hp rfl rfl (by decide) rfl) es_nil)))) (by simp [line])
        refine ⟨_, _, _, rfl, x_one (x_tz c1 (decide_eq_true h0) (x_one (x_app c2 rfl (by rw [List.length_map]; unfold line; omega)))), X ++ [((b : Int), (b : Int) + 1 + z, (pickSt 3 st4).1, (pickSt 3 (pickSt 3 st4).2).1)], _, _, (by rw [List.map_append]; rfl), rfl, by simp; omega, fun q hq => ?_⟩
        rcases List.mem_append.mp hq with hq | hq
        · exact k2 q hq
        · simp only [List.mem_singleton] at hq
          subst hq
          simp only
          omega
      · exact ⟨_, _, _, rfl, x_one (x_fz c1 (decide_eq_false h0) rfl), X, _, _, rfl, rfl, by omega, k2⟩)
    subst l3
    subst l2
    simp only [List.length_map, iota_len, Nat.zero_add] at l4
    exact ⟨_, _, _, rfl, x_one (x_for (rng2 (s1 := some st3) rfl rfl (by omega) (by omega)) l1), X', _, _, st4, rfl, rfl, by omega, l5⟩)
  subst m3
  subst m2
  simp only [List.length_map, iota_len, Nat.zero_add] at m4
  refine ⟨⟨mv, X, len⟩, st3, ⟨hmvl.1, hmvl.2, m5, by show X.length ≤ 1000; omega, hl.1, hl.2⟩, rfl, ?_⟩
  exact fn_rt rfl (x_nx (x_asg (t := .lst []) (s1 := some st) rfl rfl rfl) (x_nx (x_for (xs := mine.map T.int) (s1 := some st) rfl l1) (x_nx (x_share rfl rfl) (x_nx h2 (x_nx (x_for (xs := (iota mv.length).map T.int) (rng1 (s1 := some st2) rfl (by omega)) m1) (x_rt (x_ret rfl)))))))
theorem some_crossing_ev (hp : PickOk Φ) (hd : ∀ (k : Nat) (len : Int) (st : St), 1 ≤ k → k ≤ 4 → 1 ≤ len → len ≤ 1000 → ∃ (c : Cr) (st' : St), c.Ok ∧ c.len = len ∧ Φ "_law_draw_crossing" [.src, .int 4, .lst (eL ([0, 1, 2, 3].take k)), .int len] (some st) = some (c.e, some st')) (st : St) :
    ∃ (c : Cr) (st' : St), c.Ok ∧ 6 ≤ c.len ∧ c.len ≤ 11 ∧ evFn Φ d__law_some_crossing [.src] (some st) = some (c.e, some st') := by
  have h4 := pick_rng (m := 4) (st := st) (by decide)
  have h6 := pick_rng (m := 6) (st := (pickSt 4 st).2) (by decide)
  obtain ⟨c, st', g1, g2, g3⟩ := hd (1 + (pickSt 4 st).1).toNat (6 + (pickSt 6 (pickSt 4 st).2).1) (pickSt 6 (pickSt 4 st).2).2 (by omega) (by omega) (by omega) (by omega)
  refine ⟨c, st', g1, by omega, by omega, ?_⟩
  have hsl : evE Φ (.sl (.lst [(.cI 0), (.cI 1), (.cI 2), (.cI 3)]) .cN (.bin .add (.cI 1) (.call "_law_pick" [(.var 0), (.cI 4)]))) false [.sh .src, .un] (some st) = some (.lst (eL ([0, 1, 2, 3].take (1 + (pickSt 4 st).1).toNat)), some (pickSt 4 st).2) := by
    have h1 : evE Φ (.bin .add (.cI 1) (.call "_law_pick" [(.var 0), (.cI 4)])) false [.sh .src, .un] (some st) = some (.int (1 + (pickSt 4 st).1), some (pickSt 4 st).2) := ev_bin (x := .int 1) (s1 := some st) rfl (pick_e hp rfl rfl (by decide) rfl) rfl
    have h2 : evE Φ (.lst [(.cI 0), (.cI 1), (.cI 2), (.cI 3)]) true [.sh .src, .un] (some st) = some (.lst (eL [0, 1, 2, 3]), some st) := rfl
    have h3 : evE Φ .cN false [.sh .src, .un] (some st) = some (.non, some st) := rfl
    simp only [evE] at h1 h2 h3 ⊢
    rw [h2]
    simp only
    rw [h1]
    simp only [bnd, isCN, Bool.not_false, Bool.and_self, if_true]
    show (slT (.lst (eL [0, 1, 2, 3])) .non (.int (1 + (pickSt 4 st).1))).map _ = _
    have : cut (eL [0, 1, 2, 3]) none (some (1 + (pickSt 4 st).1)) = eL ([0, 1, 2, 3].take (1 + (pickSt 4 st).1).toNat) := by
      unfold cut sIx
      simp only [if_neg (show ¬ (1 + (pickSt 4 st).1) < 0 by omega), List.drop_zero, Nat.sub_zero]
      unfold eL
      rw [List.map_take, List.take_eq_take_iff]
      simp
    simp only [slT, bound, this]
    rfl
  have hlen : evE Φ (.bin .add (.cI 6) (.call "_law_pick" [(.var 0), (.cI 6)])) false [.sh .src, .un] (some (pickSt 4 st).2) = some (.int (6 + (pickSt 6 (pickSt 4 st).2).1), some (pickSt 6 (pickSt 4 st).2).2) := ev_bin (x := .int 6) (s1 := some (pickSt 4 st).2) rfl (pick_e hp rfl rfl (by decide) rfl) rfl
  exact fn_rt rfl (x_nx (x_asg (ev_call (es_cons (x := .src) (s1 := some st) rfl (es_cons (x := .int 4) (s1 := some st) rfl (es_cons hsl (es_cons hlen es_nil)))) g3) rfl rfl) (x_rt (x_ret rfl)))
end
end Gh
set_option linter.all false
set_option maxRecDepth 10000
namespace Gh
theorem data_eT (R : List (List Int)) : data (eT R) = true := by
  have h : flats (R.map eR) = true ∧ depths (R.map eR) ≤ 1 := by
    induction R with
    | nil => exact ⟨rfl, by simp [depths]⟩
    | cons g R ih =>
      have h1 := flats_eL g
      have h2 := depths_eL g
      simp only [List.map_cons, flats, depths, eR, flat, depth, h1, h2] at ih ⊢
      refine ⟨by rw [Bool.true_and]; exact ih.1, ?_⟩
      have := ih.2
      omega
  have h2 := h.2
  rw [data, eT, flat, h.1, Bool.true_and, decide_eq_true_eq, depth]
  omega
theorem eqTs_eT : ∀ (R : List (List Int)), eqTs (R.map eR) (R.map eR) = true
  | [] => rfl
  | g :: R => by
    simp only [List.map_cons, eqTs, eR, eqT, eqTs_eL, decide_true, Bool.true_and]
    exact eqTs_eT R
structure LawHyp (Φ : String → List T → Src → Option (T × Src)) : Prop where
  opn : ∀ ns : List Int, ns.length ≤ 1000 → ∃ st, Φ "_law_open_cells" [.scr ns] none = some (.src, some st)
  crossing : ∀ st, ∃ (c : Cr) (st' : St), c.Ok ∧ 6 ≤ c.len ∧ c.len ≤ 11 ∧ Φ "_law_some_crossing" [.src] (some st) = some (c.e, some st')
  pick : PickOk Φ
  plan : ∀ (c : Cr) st, c.Ok → ∃ plan st', PlanOk c plan ∧ Φ "_law_draw_plan" [.src, c.e] (some st) = some (eP plan, some st')
  jplan : ∀ (c : Cr) plan s, c.Ok → PlanOk c plan → Φ "judge_plan" [c.e, eP plan] s = some (.non, s)
  fits : ∀ (c : Cr) plan s, c.Ok → PlanOk c plan → Φ "_law_plan_fits" [c.e, eP plan] s = some (.bl true, s)
  cap : ∀ (c : Cr) plan s, c.Ok → PlanOk c plan → Φ "capacity_of" [c.e, eP plan] s = some (eR (capL c plan), s)
  lcap : ∀ (c : Cr) plan s, c.Ok → PlanOk c plan → Φ "_law_capacity" [c.e, eP plan] s = some (eR (capL c plan), s)
  lamps : ∀ (c : Cr) plan x s, c.Ok → PlanOk c plan → Φ "lamps_at" [c.e, eP plan, .int x] s = some (eR (rowAt c plan 0 x), s)
  stages : ∀ (c : Cr) s, c.Ok → Φ "_law_stages" [c.e] s = some (.lst ((stg c).map eR), s)
  clearing : ∀ (c : Cr) g s, c.Ok → Φ "_law_clearing" [c.e, eR g] s = some (.int (clg c g), s)
  fault : ∀ (c : Cr) R s, c.Ok → Tale c R → Φ "_law_tale_fault" [c.e, eT R] s = some (.non, s)
  jtale : ∀ (c : Cr) R s, c.Ok → Tale c R → Φ "judge_tale" [c.e, eT R] s = some (.non, s)
  jlamps : ∀ (c : Cr) R s, c.Ok → Tale c R → Φ "judge_lamps" [c.e, eTl R] s = some (.non, s)
  wid : ∀ (c : Cr) s, c.Ok → Φ "widest_clearance" [c.e] s = some (.int (wid c), s)
  wishes : ∀ (R : List (List Int)) s, R.length ≤ 1000 → Φ "wishes_for" [eT R, .int 0] s = some (.tup ((wishL R).map fun p => .tup [.int p.1, eR p.2, .int 1]), s)
  tale : ∀ (c : Cr) (hs : List Hap) s, c.Ok → hs.length ≤ 100000 → RunOk c (idle 0) hs → Φ "tale_of" [c.e, .lst (hs.map Hap.e)] s = some (.tup [(endH (idle 0) hs).e, eT (rowsH (idle 0) hs)], s)
  cars : ∀ (c : Cr) R s, c.Ok → R.length ≤ 1000 → Φ "cars_let" [c.e, eT R] s = some (eR ((iota c.n).map fun i => (adj R i : Int)), s)
abbrev zipB : List S := [(.asg (.var 14) (.and (.cmp .inn (.var 11) (.idx (.var 10) (.idx (.var 12) (.cI 0)))) (.cmp .inn (.var 11) (.idx (.var 10) (.idx (.var 13) (.cI 0)))))), (.set 5 (.var 11) (.bin .add (.idx (.var 5) (.var 11)) (.bi .int (.and (.var 14) (.cmp .eq (.call "_law_clearing" [(.var 2), (.idx (.var 10) (.idx (.var 12) (.cI 0)))]) (.cI 0))))))]
abbrev dueB : List S := [(.set 5 (.var 11) (.bin .add (.bin .add (.idx (.var 5) (.var 11)) (.idx (.var 8) (.var 11))) (.bi .int (.and (.cmp .ne (.var 4) (.tup [])) (.and (.cmp .inn (.var 11) (.idx (.var 4) (.neg (.cI 1)))) (.cmp .inn (.var 11) (.idx (.var 9) (.cI 0)))))))), (.for_ (.tup [(.var 12), (.var 13)]) (.zip [(.var 7), (.sl (.var 7) (.cI 1) .cN)]) zipB)]
abbrev lapB : List S := [(.asg (.var 7) (.call "_law_draw_plan" [(.var 1), (.var 2)])), (.ite (.or (.isN true (.call "judge_plan" [(.var 2), (.var 7)])) (.not (.call "_law_plan_fits" [(.var 2), (.var 7)]))) [(.ret (.cB false))] []), (.asg (.var 8) (.call "capacity_of" [(.var 2), (.var 7)])), (.ite (.cmp .ne (.var 8) (.call "_law_capacity" [(.var 2), (.var 7)])) [(.ret (.cB false))] []), (.asg (.var 9) (.bi .tuple (.comp (.call "lamps_at" [(.var 2), (.var 7), (.var 18)]) (.var 18) (.range [(.idx (.var 2) (.cI 2))]) (.cB true) [18]))), (.asg (.var 10) (.call "_law_stages" [(.var 2)])), (.for_ (.var 11) (.range [(.var 3)]) dueB), (.asg (.var 4) (.bin .add (.var 4) (.var 9)))]
section
variable {Φ : String → List T → Src → Option (T × Src)} {c : Cr}
theorem int_bl {env : List Slot} {e : E} {m : Bool} {s s1 : Src} {z : Bool} (h : evE Φ e true env s = some (.bl z, s1)) : evE Φ (.bi .int e) m env s = some (.int (if z then 1 else 0), s1) := ev_bi h rfl
theorem zip_loop (k : c.Ok) (H : LawHyp Φ) {ns : List Int} {R F : List (List Int)} {plan0 : Plan} {cp : List Int} {lap d : Nat} (hd : d < c.n) (s : Src) : ∀ (plan : Plan) (D : List Int) (v12 v13 v14 : Slot), (∀ p ∈ plan, InS c p.1) → D.length = c.n →
    ∃ v12' v13' v14', forL (evSs Φ zipB) (.tup [.var 12, .var 13]) ((plan.zip (plan.drop 1)).map fun p => .tup [e2 p.1, e2 p.2]) [.sh (.scr ns), .sh .src, .sh c.e, .sh (.int c.n), .sh (eT R), .ow (.lst (eL D)), .sh (.int lap), .sh (eP plan0), .sh (eR cp), .sh (eT F), .sh (.lst ((stg c).map eR)), .sh (.int d), v12, v13, v14, .un, .un, .un, .un] s =
      some (.nx, [.sh (.scr ns), .sh .src, .sh c.e, .sh (.int c.n), .sh (eT R), .ow (.lst (eL (D.set d (D.getD d 0 + linkI c d plan)))), .sh (.int lap), .sh (eP plan0), .sh (eR cp), .sh (eT F), .sh (.lst ((stg c).map eR)), .sh (.int d), v12', v13', v14', .un, .un, .un, .un], s)
  | [], D, v12, v13, v14, _, hD => by
    refine ⟨v12, v13, v14, ?_⟩
    have : D.set d (D.getD d 0 + linkI c d []) = D := by
      simp only [linkI, Int.add_zero]
      rw [List.getD_eq_getElem?_getD, List.getElem?_eq_getElem (by omega)]
      exact List.set_getElem_self (by omega)
    rw [this]; rfl
  | [p], D, v12, v13, v14, _, hD => by
    refine ⟨v12, v13, v14, ?_⟩
    have : D.set d (D.getD d 0 + linkI c d [p]) = D := by
      simp only [linkI, Int.add_zero]
      rw [List.getD_eq_getElem?_getD, List.getElem?_eq_getElem (by omega)]
      exact List.set_getElem_self (by omega)
    rw [this]; rfl
  | p :: q :: r, D, v12, v13, v14, h1, hD => by
    have hp := h1 p List.mem_cons_self
    have hq := h1 q (List.mem_cons_of_mem _ List.mem_cons_self)
    let on : Bool := (st_ c p.1).contains (d : Int) && (st_ c q.1).contains (d : Int)
    let z : Bool := on && decide (clg c (st_ c p.1) = 0)
    let D1 := D.set d (D.getD d 0 + if z then 1 else 0)
    have hD1 : D1.length = c.n := by simp [D1, hD]
    obtain ⟨v12', v13', v14', ih⟩ := zip_loop k H (ns := ns) (R := R) (F := F) (plan0 := plan0) (cp := cp) (lap := lap) hd s (q :: r) D1 (.sh (e2 p)) (.sh (e2 q)) (.sh (.bl on)) (fun x hx => h1 x (List.mem_cons_of_mem _ hx)) hD1
    refine ⟨v12', v13', v14', ?_⟩
    have g1 : D1.getD d 0 = D.getD d 0 + if z then 1 else 0 := by
      simp only [D1]
      rw [List.getD_eq_getElem?_getD, List.getElem?_set_self (by omega)]
      rfl
    have e1 : D1.set d (D1.getD d 0 + linkI c d (q :: r)) = D.set d (D.getD d 0 + linkI c d (p :: q :: r)) := by
      rw [g1]
      simp only [D1]
      rw [List.set_set]
      congr 1
      simp only [linkI, z, on]
      omega
    rw [e1] at ih
    have hix : ∀ (v : Nat) (x : Int × Int) (env : List Slot), env[10]? = some (.sh (.lst ((stg c).map eR))) → env[v]? = some (.sh (e2 x)) → InS c x.1 → ∀ m, evE Φ (.idx (.var 10) (.idx (.var v) (.cI 0))) m env s = some (eR (st_ c x.1), s) := by
      intro v x env h10 hv hx m
      refine ev_idx (x := .lst ((stg c).map eR)) (y := .int x.1) (s1 := s) (by simp only [evE, h10]) ?_ hx.ixL
      exact ev_idx (x := e2 x) (y := .int 0) (s1 := s) (by simp only [evE, hv]) rfl rfl
    have q14 : evE Φ (.and (.cmp .inn (.var 11) (.idx (.var 10) (.idx (.var 12) (.cI 0)))) (.cmp .inn (.var 11) (.idx (.var 10) (.idx (.var 13) (.cI 0))))) false [.sh (.scr ns), .sh .src, .sh c.e, .sh (.int c.n), .sh (eT R), .ow (.lst (eL D)), .sh (.int lap), .sh (eP plan0), .sh (eR cp), .sh (eT F), .sh (.lst ((stg c).map eR)), .sh (.int d), .sh (e2 p), .sh (e2 q), v14, .un, .un, .un, .un] s = some (.bl on, s) :=
      ev_andB (ev_cmp (x := .int d) (s1 := s) rfl (hix 12 p _ rfl rfl hp _) (in_eR _ _)) fun _ => ev_cmp (x := .int d) (s1 := s) rfl (hix 13 q _ rfl rfl hq _) (in_eR _ _)
    have q5 : evE Φ (.bin .add (.idx (.var 5) (.var 11)) (.bi .int (.and (.var 14) (.cmp .eq (.call "_law_clearing" [(.var 2), (.idx (.var 10) (.idx (.var 12) (.cI 0)))]) (.cI 0))))) false [.sh (.scr ns), .sh .src, .sh c.e, .sh (.int c.n), .sh (eT R), .ow (.lst (eL D)), .sh (.int lap), .sh (eP plan0), .sh (eR cp), .sh (eT F), .sh (.lst ((stg c).map eR)), .sh (.int d), .sh (e2 p), .sh (e2 q), .sh (.bl on), .un, .un, .un, .un] s = some (.int (D.getD d 0 + if z then 1 else 0), s) := by
      refine ev_bin (x := .int (D.getD d 0)) (y := .int (if z then 1 else 0)) (s1 := s) (ev_idx (s1 := s) rfl rfl (ix_eL (by omega) (by rw [hD]; omega))) (int_bl (ev_andB rfl fun _ => ev_cmp (x := .int (clg c (st_ c p.1))) (y := .int 0) (s1 := s) (ev_call (xs := [c.e, eR (st_ c p.1)]) (s1 := s) (es_cons rfl (es_cons (hix 12 p _ rfl rfl hp _) es_nil)) (H.clearing c _ s k)) rfl int_eq)) rfl
    have ea : asgTg (.tup [.var 12, .var 13]) (.tup [e2 p, e2 q]) [.sh (.scr ns), .sh .src, .sh c.e, .sh (.int c.n), .sh (eT R), .ow (.lst (eL D)), .sh (.int lap), .sh (eP plan0), .sh (eR cp), .sh (eT F), .sh (.lst ((stg c).map eR)), .sh (.int d), v12, v13, v14, .un, .un, .un, .un] = some [.sh (.scr ns), .sh .src, .sh c.e, .sh (.int c.n), .sh (eT R), .ow (.lst (eL D)), .sh (.int lap), .sh (eP plan0), .sh (eR cp), .sh (eT F), .sh (.lst ((stg c).map eR)), .sh (.int d), .sh (e2 p), .sh (e2 q), v14, .un, .un, .un, .un] := rfl
    have qb : evSs Φ zipB [.sh (.scr ns), .sh .src, .sh c.e, .sh (.int c.n), .sh (eT R), .ow (.lst (eL D)), .sh (.int lap), .sh (eP plan0), .sh (eR cp), .sh (eT F), .sh (.lst ((stg c).map eR)), .sh (.int d), .sh (e2 p), .sh (e2 q), v14, .un, .un, .un, .un] s = some (.nx, [.sh (.scr ns), .sh .src, .sh c.e, .sh (.int c.n), .sh (eT R), .ow (.lst (eL D1)), .sh (.int lap), .sh (eP plan0), .sh (eR cp), .sh (eT F), .sh (.lst ((stg c).map eR)), .sh (.int d), .sh (e2 p), .sh (e2 q), .sh (.bl on), .un, .un, .un, .un], s) :=
      x_nx (x_asg q14 rfl rfl) (x_one (x_set (kt := .int d) (s1 := s) q5 rfl (set_eL rfl (by omega) (by rw [hD]; omega))))
    show forL _ _ (T.tup [e2 p, e2 q] :: (((q :: r).zip ((q :: r).drop 1)).map fun p => T.tup [e2 p.1, e2 p.2])) _ _ = _
    simp only [forL, ea, qb]
    exact ih
end
end Gh
set_option linter.all false
set_option maxRecDepth 10000
namespace Gh
section
variable {Φ : String → List T → Src → Option (T × Src)} {c : Cr}
/-- the cars that a movement has let: what stands in due -/
def Due_ (c : Cr) (R : List (List Int)) (D : List Int) : Prop := D.length = c.n ∧ ∀ j : Nat, j < c.n → D.getD j 0 = (adj R j : Int)
theorem cut_tail {α : Type} (f : α → T) (xs : List α) : cut (xs.map f) (some 1) none = (xs.drop 1).map f := by
  unfold cut sIx
  simp only [List.length_map, if_neg (show ¬ (1 : Int) < 0 by decide), List.map_drop]
  rw [List.take_of_length_le (by simp)]
  rcases Nat.eq_zero_or_pos xs.length with h0 | h0
  · rw [List.length_eq_zero_iff.mp h0]; rfl
  · rw [show min (Int.toNat 1) xs.length = 1 by simp; omega]
theorem due_loop (k : c.Ok) (H : LawHyp Φ) {ns : List Int} {R : List (List Int)} {plan : Plan} (hp : PlanOk c plan) {lap : Nat} (s : Src) {D : List Int} (hD : Due_ c R D) {v11 v12 v13 v14 : Slot} :
    ∃ D' v11' v12' v13' v14', Due_ c (R ++ frame c plan) D' ∧ forL (evSs Φ dueB) (.var 11) ((iota c.n).map T.int) [.sh (.scr ns), .sh .src, .sh c.e, .sh (.int c.n), .sh (eT R), .ow (.lst (eL D)), .sh (.int lap), .sh (eP plan), .sh (eR (capL c plan)), .sh (eT (frame c plan)), .sh (.lst ((stg c).map eR)), v11, v12, v13, v14, .un, .un, .un, .un] s =
      some (.nx, [.sh (.scr ns), .sh .src, .sh c.e, .sh (.int c.n), .sh (eT R), .ow (.lst (eL D')), .sh (.int lap), .sh (eP plan), .sh (eR (capL c plan)), .sh (eT (frame c plan)), .sh (.lst ((stg c).map eR)), v11', v12', v13', v14', .un, .un, .un, .un], s) := by
  have hl := hp.len k
  have hl1 := k.l1
  obtain ⟨e1, s1, l1, D', w11, w12, w13, w14, l2, l3, l4, l5⟩ := forL_inv (tg := .var 11) (body := evSs Φ dueB)
    (fun b env s' => ∃ D' v11 v12 v13 v14, env = [.sh (.scr ns), .sh .src, .sh c.e, .sh (.int c.n), .sh (eT R), .ow (.lst (eL D')), .sh (.int lap), .sh (eP plan), .sh (eR (capL c plan)), .sh (eT (frame c plan)), .sh (.lst ((stg c).map eR)), v11, v12, v13, v14, .un, .un, .un, .un] ∧ s' = s ∧ D'.length = c.n ∧ ∀ j : Nat, j < c.n → D'.getD j 0 = if j < b then (adj (R ++ frame c plan) j : Int) else (adj R j : Int)) ((iota c.n).map T.int) 0 _ s ⟨D, v11, v12, v13, v14, rfl, rfl, hD.1, fun j hj => by rw [hD.2 j hj]; simp⟩ (by
    rintro b x env s' hb ⟨D', v11, v12, v13, v14, rfl, rfl, g1, g2⟩
    obtain ⟨hbn, rfl⟩ := iota_get hb
    rw [Nat.zero_add] at g2 ⊢
    let z : Bool := lsB (R.map fun g => g.contains (b : Int)) && (rowAt c plan 0 0).contains (b : Int)
    have hz : evE Φ (.and (.cmp .ne (.var 4) (.tup [])) (.and (.cmp .inn (.var 11) (.idx (.var 4) (.neg (.cI 1)))) (.cmp .inn (.var 11) (.idx (.var 9) (.cI 0))))) true [.sh (.scr ns), .sh .src, .sh c.e, .sh (.int c.n), .sh (eT R), .ow (.lst (eL D')), .sh (.int lap), .sh (eP plan), .sh (eR (capL c plan)), .sh (eT (frame c plan)), .sh (.lst ((stg c).map eR)), .sh (.int b), v12, v13, v14, .un, .un, .un, .un] s' = some (.bl z, s') := by
      have hne : evE Φ (.cmp .ne (.var 4) (.tup [])) true [.sh (.scr ns), .sh .src, .sh c.e, .sh (.int c.n), .sh (eT R), .ow (.lst (eL D')), .sh (.int lap), .sh (eP plan), .sh (eR (capL c plan)), .sh (eT (frame c plan)), .sh (.lst ((stg c).map eR)), .sh (.int b), v12, v13, v14, .un, .un, .un, .un] s' = some (.bl (!eqTs (R.map eR) []), s') := by
        refine ev_cmp (x := eT R) (y := .tup []) (s1 := s') rfl rfl ?_
        show (if data (eT R) && data (.tup []) then some (!eqTs (R.map eR) []) else none) = _
        rw [data_eT]; rfl
      cases hR : R with
      | nil =>
        rw [hR] at hne
        have : z = false := by simp only [z, hR]; rfl
        rw [this]
        exact ev_and_z hne rfl
      | cons g R' =>
        have hR0 : 0 < R.length := by rw [hR]; simp
        have hlast : R[R.length - 1]? = some (R[R.length - 1]) := List.getElem?_eq_getElem (by omega)
        have hls : lsB (R.map fun g => g.contains (b : Int)) = (R[R.length - 1]).contains (b : Int) := by
          unfold lsB
          rw [List.getLast?_map, List.getLast?_eq_getElem?, hlast]
          rfl
        have hf0 : (frame c plan)[0]? = some (rowAt c plan 0 0) := by
          unfold frame iota
          rw [List.getElem?_map, List.getElem?_map, List.getElem?_range (by omega)]
          rfl
        have e1 : evE Φ (.idx (.var 4) (.neg (.cI 1))) true [.sh (.scr ns), .sh .src, .sh c.e, .sh (.int c.n), .sh (eT R), .ow (.lst (eL D')), .sh (.int lap), .sh (eP plan), .sh (eR (capL c plan)), .sh (eT (frame c plan)), .sh (.lst ((stg c).map eR)), .sh (.int b), v12, v13, v14, .un, .un, .un, .un] s' = some (eR (R[R.length - 1]), s') := by
          refine ev_idx (x := eT R) (y := .int (-1)) (s1 := s') rfl rfl ?_
          show (ixN (R.map eR).length (-1)).bind (fun j => (R.map eR)[j]?) = _
          have : ixN (R.map eR).length (-1) = some (R.length - 1) := by
            unfold ixN
            rw [if_neg (by decide), if_pos (by rw [List.length_map]; omega), List.length_map]
            congr 1; omega
          rw [this]
          show (R.map eR)[R.length - 1]? = _
          rw [List.getElem?_map, hlast]; rfl
        have e2 : evE Φ (.idx (.var 9) (.cI 0)) true [.sh (.scr ns), .sh .src, .sh c.e, .sh (.int c.n), .sh (eT R), .ow (.lst (eL D')), .sh (.int lap), .sh (eP plan), .sh (eR (capL c plan)), .sh (eT (frame c plan)), .sh (.lst ((stg c).map eR)), .sh (.int b), v12, v13, v14, .un, .un, .un, .un] s' = some (eR (rowAt c plan 0 0), s') := by
          refine ev_idx (x := eT (frame c plan)) (y := .int 0) (s1 := s') rfl rfl ?_
          exact ix_nat (b := 0) (by rw [List.getElem?_map, hf0]; rfl)
        have hz2 : z = ((R[R.length - 1]).contains (b : Int) && (rowAt c plan 0 0).contains (b : Int)) := by simp only [z]; rw [hls]
        rw [hz2, ← hR]
        refine ev_and_y hne (by rw [hR]; rfl) (ev_andB (ev_cmp (x := .int b) (s1 := s') rfl e1 (in_eR _ _)) fun _ => ev_cmp (x := .int b) (s1 := s') rfl e2 (in_eR _ _))
    let D1 := D'.set b (D'.getD b 0 + capI c plan b + if z then 1 else 0)
    have hD1 : D1.length = c.n := by simp [D1, g1]
    have q1 : evE Φ (.bin .add (.bin .add (.idx (.var 5) (.var 11)) (.idx (.var 8) (.var 11))) (.bi .int (.and (.cmp .ne (.var 4) (.tup [])) (.and (.cmp .inn (.var 11) (.idx (.var 4) (.neg (.cI 1)))) (.cmp .inn (.var 11) (.idx (.var 9) (.cI 0))))))) false [.sh (.scr ns), .sh .src, .sh c.e, .sh (.int c.n), .sh (eT R), .ow (.lst (eL D')), .sh (.int lap), .sh (eP plan), .sh (eR (capL c plan)), .sh (eT (frame c plan)), .sh (.lst ((stg c).map eR)), .sh (.int b), v12, v13, v14, .un, .un, .un, .un] s' = some (.int (D'.getD b 0 + capI c plan b + if z then 1 else 0), s') := by
      refine ev_bin (x := .int (D'.getD b 0 + capI c plan b)) (y := .int (if z then 1 else 0)) (s1 := s') (ev_bin (x := .int (D'.getD b 0)) (y := .int (capI c plan b)) (s1 := s') (ev_idx (s1 := s') rfl rfl (ix_eL (by omega) (by rw [g1]; omega))) (ev_idx (x := eR (capL c plan)) (y := .int b) (s1 := s') rfl rfl ?_) rfl) (int_bl hz) rfl
      rw [← capL_get k (fun p hpm => (hp.ins p hpm).1) hbn]
      exact ix_eR (by omega) (by rw [capL_len]; omega)
    obtain ⟨v12', v13', v14', hzl⟩ := zip_loop k H (ns := ns) (R := R) (F := frame c plan) (plan0 := plan) (cp := capL c plan) (lap := lap) hbn s' plan D1 v12 v13 v14 (fun p hpm => (hp.ins p hpm).1) hD1
    have hit : (evE Φ (.zip [(.var 7), (.sl (.var 7) (.cI 1) .cN)]) false [.sh (.scr ns), .sh .src, .sh c.e, .sh (.int c.n), .sh (eT R), .ow (.lst (eL D1)), .sh (.int lap), .sh (eP plan), .sh (eR (capL c plan)), .sh (eT (frame c plan)), .sh (.lst ((stg c).map eR)), .sh (.int b), v12, v13, v14, .un, .un, .un, .un] s').bind seqS = some ((plan.zip (plan.drop 1)).map (fun p => .tup [e2 p.1, e2 p.2]), s') := by
      have e : evE Φ (.zip [(.var 7), (.sl (.var 7) (.cI 1) .cN)]) false [.sh (.scr ns), .sh .src, .sh c.e, .sh (.int c.n), .sh (eT R), .ow (.lst (eL D1)), .sh (.int lap), .sh (eP plan), .sh (eR (capL c plan)), .sh (eT (frame c plan)), .sh (.lst ((stg c).map eR)), .sh (.int b), v12, v13, v14, .un, .un, .un, .un] s' = some (.lst (zipT [plan.map e2, (plan.drop 1).map e2]), s') := by
        rw [← cut_tail]; rfl
      exact sq_of e (by rw [zipC_map]; rfl)
    refine ⟨_, _, _, rfl, x_nx (x_set (kt := .int b) (s1 := s') q1 rfl (set_eL rfl (by omega) (by rw [g1]; omega))) (x_one (x_for hit hzl)), D1.set b (D1.getD b 0 + linkI c b plan), _, _, _, _, rfl, rfl, by simp [hD1], fun j hj => ?_⟩
    have hfr := adj_frame k (R := R) hp (b : Int)
    by_cases e : j = b
    · subst e
      rw [List.getD_eq_getElem?_getD, List.getElem?_set_self (by omega), if_pos (by omega)]
      show D1.getD j 0 + linkI c j plan = _
      have : D1.getD j 0 = D'.getD j 0 + capI c plan j + if z then 1 else 0 := by
        simp only [D1]
        rw [List.getD_eq_getElem?_getD, List.getElem?_set_self (by omega)]
        rfl
      rw [this, g2 j hj, if_neg (by omega)]
      simp only [z]
      omega
    · rw [List.getD_eq_getElem?_getD, List.getElem?_set_ne (by omega), ← List.getD_eq_getElem?_getD]
      simp only [D1]
      rw [List.getD_eq_getElem?_getD, List.getElem?_set_ne (by omega), ← List.getD_eq_getElem?_getD, g2 j hj]
      by_cases h1 : j < b
      · rw [if_pos h1, if_pos (by omega)]
      · rw [if_neg h1, if_neg (by omega)])
  subst l3
  subst l2
  simp only [List.length_map, iota_len, Nat.zero_add] at l5
  exact ⟨D', _, _, _, _, ⟨l4, fun j hj => by rw [l5 j hj, if_pos hj]⟩, l1⟩
end
end Gh
set_option linter.all false
set_option maxRecDepth 10000
namespace Gh
section
variable {Φ : String → List T → Src → Option (T × Src)} {c : Cr}
theorem ne_eR (xs : List Int) : cmpT .ne (eR xs) (eR xs) = some false := by
  show (if data (eR xs) && data (eR xs) then some (!eqTs (eL xs) (eL xs)) else none) = _
  rw [data_eR, eqTs_eL]; simp
theorem lap_step (k : c.Ok) (H : LawHyp Φ) {ns : List Int} {R : List (List Int)} (hG : Grow c R) (hRl : R.length ≤ 1000) {D : List Int} (hD : Due_ c R D) {lap : Nat} (st : St) {v7 v8 v9 v10 v11 v12 v13 v14 : Slot} :
    ∃ (plan : Plan) (D' : List Int) (st' : St) (v7' v8' v9' v10' v11' v12' v13' v14' : Slot), PlanOk c plan ∧ Due_ c (R ++ frame c plan) D' ∧ evSs Φ lapB [.sh (.scr ns), .sh .src, .sh c.e, .sh (.int c.n), .sh (eT R), .ow (.lst (eL D)), .sh (.int lap), v7, v8, v9, v10, v11, v12, v13, v14, .un, .un, .un, .un] (some st) =
      some (.nx, [.sh (.scr ns), .sh .src, .sh c.e, .sh (.int c.n), .sh (eT (R ++ frame c plan)), .ow (.lst (eL D')), .sh (.int lap), v7', v8', v9', v10', v11', v12', v13', v14', .un, .un, .un, .un], some st') := by
  obtain ⟨plan, st', hp, hpe⟩ := H.plan c st k
  have hl2 := k.l2
  have hl1 := k.l1
  have hn4 := k.n4
  obtain ⟨D', w11, w12, w13, w14, hD', hdl⟩ := due_loop k H (ns := ns) hp (lap := lap) (some st') hD (v11 := v11) (v12 := v12) (v13 := v13) (v14 := v14)
  refine ⟨plan, D', st', .sh (eP plan), .sh (eR (capL c plan)), .sh (eT (frame c plan)), .sh (.lst ((stg c).map eR)), w11, w12, w13, w14, hp, hD', ?_⟩
  have q7 : evE Φ (.call "_law_draw_plan" [(.var 1), (.var 2)]) false [.sh (.scr ns), .sh .src, .sh c.e, .sh (.int c.n), .sh (eT R), .ow (.lst (eL D)), .sh (.int lap), v7, v8, v9, v10, v11, v12, v13, v14, .un, .un, .un, .un] (some st) = some (eP plan, some st') := ev_call (xs := [.src, c.e]) (s1 := some st) rfl hpe
  have qc : evE Φ (.or (.isN true (.call "judge_plan" [(.var 2), (.var 7)])) (.not (.call "_law_plan_fits" [(.var 2), (.var 7)]))) true [.sh (.scr ns), .sh .src, .sh c.e, .sh (.int c.n), .sh (eT R), .ow (.lst (eL D)), .sh (.int lap), .sh (eP plan), v8, v9, v10, v11, v12, v13, v14, .un, .un, .un, .un] (some st') = some (.bl false, some st') :=
    ev_bz (ev_orB (p := false) (q := false) (ev_isN_non (neg := true) (ev_call (xs := [c.e, eP plan]) (s1 := some st') rfl (H.jplan c plan _ k hp))) fun _ => ev_not (z := true) (ev_call (xs := [c.e, eP plan]) (s1 := some st') rfl (H.fits c plan _ k hp))) rfl
  have q8 : evE Φ (.call "capacity_of" [(.var 2), (.var 7)]) false [.sh (.scr ns), .sh .src, .sh c.e, .sh (.int c.n), .sh (eT R), .ow (.lst (eL D)), .sh (.int lap), .sh (eP plan), v8, v9, v10, v11, v12, v13, v14, .un, .un, .un, .un] (some st') = some (eR (capL c plan), some st') := ev_call (xs := [c.e, eP plan]) (s1 := some st') rfl (H.cap c plan _ k hp)
  have qn : evE Φ (.cmp .ne (.var 8) (.call "_law_capacity" [(.var 2), (.var 7)])) true [.sh (.scr ns), .sh .src, .sh c.e, .sh (.int c.n), .sh (eT R), .ow (.lst (eL D)), .sh (.int lap), .sh (eP plan), .sh (eR (capL c plan)), v9, v10, v11, v12, v13, v14, .un, .un, .un, .un] (some st') = some (.bl false, some st') :=
    ev_cmp (s1 := some st') rfl (ev_call (xs := [c.e, eP plan]) (s1 := some st') rfl (H.lcap c plan _ k hp)) (ne_eR _)
  have q9 : evE Φ (.bi .tuple (.comp (.call "lamps_at" [(.var 2), (.var 7), (.var 18)]) (.var 18) (.range [(.idx (.var 2) (.cI 2))]) (.cB true) [18])) false [.sh (.scr ns), .sh .src, .sh c.e, .sh (.int c.n), .sh (eT R), .ow (.lst (eL D)), .sh (.int lap), .sh (eP plan), .sh (eR (capL c plan)), v9, v10, v11, v12, v13, v14, .un, .un, .un, .un] (some st') = some (eT (frame c plan), some st') := by
    refine ev_bi (x := .lst ((frame c plan).map eR)) (s1 := some st') ?_ rfl
    unfold frame
    rw [List.map_map]
    refine ev_compM (enc := T.int) (s1 := some st') (iota c.len.toNat) _ (rng1 (n := c.len.toNat) ?_ (by omega)) rfl (by rw [iota_len]; omega) fun x hx => ⟨_, rfl, ev_call (xs := [c.e, eP plan, .int x]) (s1 := some st') rfl (H.lamps c plan x _ k hp)⟩
    rw [show ((c.len.toNat : Nat) : Int) = c.len by omega]
    rfl
  have q10 : evE Φ (.call "_law_stages" [(.var 2)]) false [.sh (.scr ns), .sh .src, .sh c.e, .sh (.int c.n), .sh (eT R), .ow (.lst (eL D)), .sh (.int lap), .sh (eP plan), .sh (eR (capL c plan)), .sh (eT (frame c plan)), v10, v11, v12, v13, v14, .un, .un, .un, .un] (some st') = some (.lst ((stg c).map eR), some st') := ev_call (xs := [c.e]) (s1 := some st') rfl (H.stages c _ k)
  have q4 : evE Φ (.bin .add (.var 4) (.var 9)) false [.sh (.scr ns), .sh .src, .sh c.e, .sh (.int c.n), .sh (eT R), .ow (.lst (eL D')), .sh (.int lap), .sh (eP plan), .sh (eR (capL c plan)), .sh (eT (frame c plan)), .sh (.lst ((stg c).map eR)), w11, w12, w13, w14, .un, .un, .un, .un] (some st') = some (eT (R ++ frame c plan), some st') := by
    refine ev_bin (x := eT R) (y := eT (frame c plan)) (s1 := some st') rfl rfl ?_
    show (if _ ≤ line then _ else _) = _
    rw [if_pos (by rw [List.length_map, List.length_map, frame_len]; unfold line; omega)]
    simp [eT]
  exact x_nx (x_asg q7 rfl rfl) (x_nx (x_f qc rfl) (x_nx (x_asg q8 rfl rfl) (x_nx (x_f qn rfl) (x_nx (x_asg q9 rfl rfl) (x_nx (x_asg q10 rfl rfl) (x_nx (x_for (xs := (iota c.n).map T.int) (rng1 (s1 := some st') rfl (by omega)) hdl) (x_one (x_asg q4 rfl rfl))))))))
abbrev hapB : List S := [(.asg (.var 15) (.bin .add (.var 15) (.lst [(.tup [(.cS "wish"), (.var 16)]), (.tup [(.cS "tick")])])))]
theorem rep_flat {α : Type} (x : α) (n : Nat) : (List.replicate n [x]).flatten = List.replicate n x := by
  induction n with
  | zero => rfl
  | succ n ih => rw [List.replicate_succ, List.flatten_cons, ih, List.replicate_succ]; rfl
theorem cut_from {xs : List T} {n : Nat} (h : n ≤ xs.length) : cut xs (some (n : Int)) none = xs.drop n := by
  unfold cut sIx
  simp only [if_neg (show ¬ ((n : Int) < 0) by omega), Int.toNat_natCast]
  rw [List.take_of_length_le (by simp)]
  rw [Nat.min_eq_left h]
theorem law_ev (H : LawHyp Φ) {ns : List Int} (hns : ns.length ≤ 1000) : ∃ s', evFn Φ d_law [.scr ns] none = some (.bl true, s') := by
  obtain ⟨st0, h0⟩ := H.opn ns hns
  obtain ⟨c, st1, k, hl6, hl11, h1⟩ := H.crossing st0
  have hn4 := k.n4
  have hpk := pick_rng (m := 4) (st := st1) (by decide)
  generalize hlp : (1 + (pickSt 4 st1).1).toNat = laps
  have hlaps : 1 ≤ laps ∧ laps ≤ 4 := by omega
  -- the laps
  obtain ⟨e1, s1, l1, R, D, st2, v6, v7, v8, v9, v10, v11, v12, v13, v14, l2, l3, l4, l5, l6⟩ := forL_inv (tg := .var 6) (body := evSs Φ lapB)
    (fun b env s' => ∃ (R : List (List Int)) (D : List Int) (st2 : St) (v6 v7 v8 v9 v10 v11 v12 v13 v14 : Slot), env = [.sh (.scr ns), .sh .src, .sh c.e, .sh (.int c.n), .sh (eT R), .ow (.lst (eL D)), v6, v7, v8, v9, v10, v11, v12, v13, v14, .un, .un, .un, .un] ∧ s' = some st2 ∧ Grow c R ∧ R.length = b * c.len.toNat ∧ Due_ c R D) ((iota laps).map T.int) 0 [.sh (.scr ns), .sh .src, .sh c.e, .sh (.int c.n), .sh (eT []), .ow (.lst (eL (List.replicate c.n 0))), .un, .un, .un, .un, .un, .un, .un, .un, .un, .un, .un, .un, .un] (some (pickSt 4 st1).2) ⟨[], List.replicate c.n 0, _, _, _, _, _, _, _, _, _, _, rfl, rfl, .nil, by simp, by simp, fun j hj => by simp [adj, List.getD_eq_getElem?_getD, List.getElem?_replicate, hj]⟩ (by
    rintro b x env s' hb ⟨R, D, st2, v6, v7, v8, v9, v10, v11, v12, v13, v14, rfl, rfl, g1, g2, g3⟩
    obtain ⟨hbn, rfl⟩ := iota_get hb
    rw [Nat.zero_add] at g2 ⊢
    have hm : b * c.len.toNat ≤ 4 * 11 := Nat.mul_le_mul (by omega) (by omega)
    obtain ⟨plan, D', st', w7, w8, w9, w10, w11, w12, w13, w14, hp, hD', hst⟩ := lap_step k H (ns := ns) g1 (by omega) g3 (lap := b) st2 (v7 := v7) (v8 := v8) (v9 := v9) (v10 := v10) (v11 := v11) (v12 := v12) (v13 := v13) (v14 := v14)
    refine ⟨_, _, _, rfl, hst, _, _, _, _, _, _, _, _, _, _, _, _, rfl, rfl, g1.frame k hp, ?_, hD'⟩
    rw [List.length_append, frame_len, g2, Nat.succ_mul])
  subst l3
  subst l2
  simp only [List.length_map, iota_len, Nat.zero_add] at l5
  have hm : laps * c.len.toNat ≤ 4 * 11 := Nat.mul_le_mul (by omega) (by omega)
  have hRl : R.length ≤ 44 := by omega
  have hT : Tale c R := l4.tale (by omega)
  have hwi := wid_ge c
  have hwl := wid_le k
  obtain ⟨hrun, hrows⟩ := run_all k hT (by omega)
  -- the happenings
  have hW : (List.replicate (wid c).toNat Hap.tick).map Hap.e = List.replicate (wid c).toNat (.tup [.str "tick"]) := by rw [List.map_replicate]; rfl
  obtain ⟨e2, s2, m1, v16, m2, m3⟩ := forL_inv (tg := .var 16) (body := evSs Φ hapB)
    (fun b env s' => ∃ v16, env = [.sh (.scr ns), .sh .src, .sh c.e, .sh (.int c.n), .sh (eT R), .ow (.lst (eL D)), v6, v7, v8, v9, v10, v11, v12, v13, v14, .ow (.lst ((List.replicate (wid c).toNat Hap.tick ++ ((wishL R).take b).flatMap fun p => [Hap.wish p.1 p.2, Hap.tick]).map Hap.e)), v16, .un, .un] ∧ s' = some st2) ((wishL R).map fun p => .tup [.int p.1, eR p.2, .int 1]) 0 [.sh (.scr ns), .sh .src, .sh c.e, .sh (.int c.n), .sh (eT R), .ow (.lst (eL D)), v6, v7, v8, v9, v10, v11, v12, v13, v14, .ow (.lst (List.replicate (wid c).toNat (.tup [.str "tick"]))), .un, .un, .un] (some st2) ⟨_, (by rw [← hW]; simp; rfl), rfl⟩ (by
    rintro b x env s' hb ⟨v16, rfl, rfl⟩
    have hbl : b < (wishL R).length := by simpa using (List.getElem?_eq_some_iff.mp hb).1
    rw [List.getElem?_map, Option.map_eq_some_iff] at hb
    obtain ⟨p, hb, rfl⟩ := hb
    rw [Nat.zero_add]
    have hwll : (wishL R).length = R.length := by simp [wishL, enL_len]
    have htk : (wishL R).take (b + 1) = (wishL R).take b ++ [p] := by rw [List.take_succ, hb]; rfl
    have hfl : ∀ ps : List (Int × List Int), (ps.flatMap fun p => [Hap.wish p.1 p.2, Hap.tick]).length = 2 * ps.length := by
      intro ps
      induction ps with
      | nil => rfl
      | cons x xs ih => rw [List.flatMap_cons, List.length_append, ih]; simp; omega
    have q : evE Φ (.bin .add (.var 15) (.lst [(.tup [(.cS "wish"), (.var 16)]), (.tup [(.cS "tick")])])) false [.sh (.scr ns), .sh .src, .sh c.e, .sh (.int c.n), .sh (eT R), .ow (.lst (eL D)), v6, v7, v8, v9, v10, v11, v12, v13, v14, .ow (.lst ((List.replicate (wid c).toNat Hap.tick ++ ((wishL R).take b).flatMap fun p => [Hap.wish p.1 p.2, Hap.tick]).map Hap.e)), .sh (.tup [.int p.1, eR p.2, .int 1]), .un, .un] (some st2) =
        some (.lst ((List.replicate (wid c).toNat Hap.tick ++ ((wishL R).take (b + 1)).flatMap fun p => [Hap.wish p.1 p.2, Hap.tick]).map Hap.e), some st2) := by
      refine ev_bin (x := .lst ((List.replicate (wid c).toNat Hap.tick ++ ((wishL R).take b).flatMap fun p => [Hap.wish p.1 p.2, Hap.tick]).map Hap.e)) (y := .lst [(Hap.wish p.1 p.2).e, Hap.tick.e]) (s1 := some st2) rfl rfl ?_
      show (if _ ≤ line then _ else _) = _
      have htl : ((wishL R).take b).length ≤ 44 := by rw [List.length_take]; omega
      rw [if_pos (by rw [List.length_map, List.length_append, hfl, List.length_replicate]; simp [line]; omega)]
      rw [htk]
      simp
    exact ⟨_, _, _, rfl, x_one (x_asg q rfl rfl), _, rfl, rfl⟩)
  subst m3
  subst m2
  simp only [List.length_map, Nat.zero_add, List.take_length] at m1
  have hhap : (List.replicate (wid c).toNat Hap.tick ++ (wishL R).flatMap fun p => [Hap.wish p.1 p.2, Hap.tick]) = hapL c R := rfl
  rw [hhap] at m1
  have hhl : (hapL c R).length ≤ 100000 := by
    unfold hapL
    rw [List.length_append, List.length_replicate, hapW_len]
    omega
  have hDl : D = (iota c.n).map fun i => (adj R i : Int) := by
    apply List.ext_getElem?
    intro j
    by_cases hj : j < c.n
    · have := l6.2 j hj
      rw [List.getD_eq_getElem?_getD, List.getElem?_eq_getElem (by rw [l6.1]; exact hj)] at this
      rw [List.getElem?_eq_getElem (by rw [l6.1]; exact hj)]
      simp only [Option.getD_some] at this
      rw [this]
      simp [iota, hj]
    · rw [List.getElem?_eq_none (by rw [l6.1]; omega), List.getElem?_eq_none (by simp [iota]; omega)]
  -- the parts
  have p1 : evE Φ (.call "_law_open_cells" [(.var 0)]) false [.sh (.scr ns), .un, .un, .un, .un, .un, .un, .un, .un, .un, .un, .un, .un, .un, .un, .un, .un, .un, .un] none = some (.src, some st0) := ev_call (xs := [.scr ns]) (s1 := none) rfl h0
  have p2 : evE Φ (.call "_law_some_crossing" [(.var 1)]) false [.sh (.scr ns), .sh .src, .un, .un, .un, .un, .un, .un, .un, .un, .un, .un, .un, .un, .un, .un, .un, .un, .un] (some st0) = some (c.e, some st1) := ev_call (xs := [.src]) (s1 := some st0) rfl h1
  have p3 : evS Φ (.asgs [(.var 3), (.var 4), (.var 5)] [(.bi .len (.idx (.var 2) (.cI 0))), (.tup []), (.bin .mul (.lst [(.cI 0)]) (.bi .len (.idx (.var 2) (.cI 0))))]) [.sh (.scr ns), .sh .src, .sh c.e, .un, .un, .un, .un, .un, .un, .un, .un, .un, .un, .un, .un, .un, .un, .un, .un] (some st1) =
      some (.nx, [.sh (.scr ns), .sh .src, .sh c.e, .sh (.int c.n), .sh (eT []), .ow (.lst (eL (List.replicate c.n 0))), .un, .un, .un, .un, .un, .un, .un, .un, .un, .un, .un, .un, .un], some st1) := by
    have hmul : evE Φ (.bin .mul (.lst [(.cI 0)]) (.bi .len (.idx (.var 2) (.cI 0)))) false [.sh (.scr ns), .sh .src, .sh c.e, .un, .un, .un, .un, .un, .un, .un, .un, .un, .un, .un, .un, .un, .un, .un, .un] (some st1) = some (.lst (eL (List.replicate c.n 0)), some st1) := by
      refine ev_bin (x := .lst [.int 0]) (y := .int c.n) (s1 := some st1) rfl rfl ?_
      show (if decide ((c.n : Int) ≤ 1000) && decide (-1000 ≤ (c.n : Int)) && decide (([T.int 0] : List T).length ≤ 1000) then some (T.lst (List.replicate (c.n : Int).toNat [T.int 0]).flatten) else none) = _
      rw [if_pos (by simp; omega), rep_flat]
      simp [eL]
    have := es_cons (Φ := Φ) (e := .bi .len (.idx (.var 2) (.cI 0))) (x := .int c.n) (env := [.sh (.scr ns), .sh .src, .sh c.e, .un, .un, .un, .un, .un, .un, .un, .un, .un, .un, .un, .un, .un, .un, .un, .un]) (s := some st1) (s1 := some st1) rfl (es_cons (e := .tup []) (x := eT []) (s1 := some st1) rfl (es_cons hmul es_nil))
    simp only [evS, this]
    rfl
  have p4 : evE Φ (.bin .add (.cI 1) (.call "_law_pick" [(.var 1), (.cI 4)])) true [.sh (.scr ns), .sh .src, .sh c.e, .sh (.int c.n), .sh (eT []), .ow (.lst (eL (List.replicate c.n 0))), .un, .un, .un, .un, .un, .un, .un, .un, .un, .un, .un, .un, .un] (some st1) = some (.int laps, some (pickSt 4 st1).2) := by
    rw [show ((laps : Nat) : Int) = 1 + (pickSt 4 st1).1 by omega]
    exact ev_bin (x := .int 1) (s1 := some st1) rfl (pick_e H.pick rfl rfl (by decide) rfl) rfl
  have p5 : evE Φ (.or (.isN true (.call "_law_tale_fault" [(.var 2), (.var 4)])) (.isN true (.call "judge_tale" [(.var 2), (.var 4)]))) true [.sh (.scr ns), .sh .src, .sh c.e, .sh (.int c.n), .sh (eT R), .ow (.lst (eL D)), v6, v7, v8, v9, v10, v11, v12, v13, v14, .un, .un, .un, .un] (some st2) = some (.bl false, some st2) :=
    ev_bz (ev_orB (p := false) (q := false) (ev_isN_non (neg := true) (ev_call (xs := [c.e, eT R]) (s1 := some st2) rfl (H.fault c R _ k hT))) fun _ => ev_isN_non (neg := true) (ev_call (xs := [c.e, eT R]) (s1 := some st2) rfl (H.jtale c R _ k hT))) rfl
  have p6 : evE Φ (.isN true (.call "judge_lamps" [(.var 2), (.bi .list (.var 4))])) true [.sh (.scr ns), .sh .src, .sh c.e, .sh (.int c.n), .sh (eT R), .ow (.lst (eL D)), v6, v7, v8, v9, v10, v11, v12, v13, v14, .un, .un, .un, .un] (some st2) = some (.bl false, some st2) :=
    ev_isN_non (neg := true) (ev_call (xs := [c.e, eTl R]) (s1 := some st2) rfl (H.jlamps c R _ k hT))
  have p7 : evE Φ (.bin .mul (.lst [(.tup [(.cS "tick")])]) (.call "widest_clearance" [(.var 2)])) false [.sh (.scr ns), .sh .src, .sh c.e, .sh (.int c.n), .sh (eT R), .ow (.lst (eL D)), v6, v7, v8, v9, v10, v11, v12, v13, v14, .un, .un, .un, .un] (some st2) = some (.lst (List.replicate (wid c).toNat (.tup [.str "tick"])), some st2) := by
    refine ev_bin (x := .lst [.tup [.str "tick"]]) (y := .int (wid c)) (s1 := some st2) rfl (ev_call (xs := [c.e]) (s1 := some st2) rfl (H.wid c _ k)) ?_
    show (if decide (wid c ≤ 1000) && decide (-1000 ≤ wid c) && decide (([T.tup [.str "tick"]] : List T).length ≤ 1000) then some (T.lst (List.replicate (wid c).toNat [T.tup [.str "tick"]]).flatten) else none) = _
    rw [if_pos (by simp; omega), rep_flat]
  have p8 : (evE Φ (.call "wishes_for" [(.var 4), (.cI 0)]) false [.sh (.scr ns), .sh .src, .sh c.e, .sh (.int c.n), .sh (eT R), .ow (.lst (eL D)), v6, v7, v8, v9, v10, v11, v12, v13, v14, .ow (.lst (List.replicate (wid c).toNat (.tup [.str "tick"]))), .un, .un, .un] (some st2)).bind seqS = some ((wishL R).map (fun p => .tup [.int p.1, eR p.2, .int 1]), some st2) :=
    sq_of (ev_call (xs := [eT R, .int 0]) (s1 := some st2) rfl (H.wishes R _ (by omega))) rfl
  have p9 : evE Φ (.sl (.idx (.call "tale_of" [(.var 2), (.var 15)]) (.cI 1)) (.call "widest_clearance" [(.var 2)]) .cN) false [.sh (.scr ns), .sh .src, .sh c.e, .sh (.int c.n), .sh (eT R), .ow (.lst (eL D)), v6, v7, v8, v9, v10, v11, v12, v13, v14, .sh (.lst ((hapL c R).map Hap.e)), v16, .un, .un] (some st2) = some (eT R, some st2) := by
    have a1 : evE Φ (.idx (.call "tale_of" [(.var 2), (.var 15)]) (.cI 1)) true [.sh (.scr ns), .sh .src, .sh c.e, .sh (.int c.n), .sh (eT R), .ow (.lst (eL D)), v6, v7, v8, v9, v10, v11, v12, v13, v14, .sh (.lst ((hapL c R).map Hap.e)), v16, .un, .un] (some st2) = some (eT (List.replicate (wid c).toNat [] ++ R), some st2) := by
      rw [← hrows]
      exact ev_idx (s1 := some st2) (ev_call (xs := [c.e, .lst ((hapL c R).map Hap.e)]) (s1 := some st2) rfl (H.tale c (hapL c R) _ k hhl hrun)) rfl rfl
    have a2 : evE Φ (.call "widest_clearance" [(.var 2)]) false [.sh (.scr ns), .sh .src, .sh c.e, .sh (.int c.n), .sh (eT R), .ow (.lst (eL D)), v6, v7, v8, v9, v10, v11, v12, v13, v14, .sh (.lst ((hapL c R).map Hap.e)), v16, .un, .un] (some st2) = some (.int ((wid c).toNat : Nat), some st2) := by
      rw [show (((wid c).toNat : Nat) : Int) = wid c by omega]
      exact ev_call (xs := [c.e]) (s1 := some st2) rfl (H.wid c _ k)
    rw [evE, a1]
    simp only
    rw [a2]
    simp only [evE, bnd, isCN, Bool.not_false, Bool.and_self, if_true]
    have : cut ((List.replicate (wid c).toNat [] ++ R).map eR) (some ((wid c).toNat : Int)) none = R.map eR := by
      rw [cut_from (by simp)]
      rw [List.map_append, List.drop_append_of_le_length (by simp)]
      simp
    show (slT (.tup ((List.replicate (wid c).toNat [] ++ R).map eR)) (.int ((wid c).toNat : Int)) .non).map _ = _
    simp only [slT, bound, this]
    rfl
  have p10 : evE Φ (.and (.cmp .eq (.var 17) (.var 4)) (.cmp .eq (.call "cars_let" [(.var 2), (.var 4)]) (.bi .tuple (.var 5)))) false [.sh (.scr ns), .sh .src, .sh c.e, .sh (.int c.n), .sh (eT R), .ow (.lst (eL D)), v6, v7, v8, v9, v10, v11, v12, v13, v14, .sh (.lst ((hapL c R).map Hap.e)), v16, .sh (eT R), .un] (some st2) = some (.bl true, some st2) := by
    refine ev_bz (ev_andB (p := true) (q := true) (ev_cmp (x := eT R) (y := eT R) (s1 := some st2) rfl rfl ?_) fun _ => ev_cmp (x := eR D) (y := eR D) (s1 := some st2) (ev_call (xs := [c.e, eT R]) (s1 := some st2) rfl ?_) (ev_bi (x := .lst (eL D)) (s1 := some st2) rfl rfl) ?_) rfl
    · show (if data (eT R) && data (eT R) then some (eqTs (R.map eR) (R.map eR)) else none) = _
      rw [data_eT, eqTs_eT]; rfl
    · rw [hDl]
      exact H.cars c R _ k (by omega)
    · show (if data (eR D) && data (eR D) then some (eqTs (eL D) (eL D)) else none) = _
      rw [data_eR, eqTs_eL]; simp
  refine ⟨some st2, fn_rt rfl (x_nx (x_asg p1 rfl rfl) (x_nx (x_asg p2 rfl rfl) (x_nx p3 (x_nx (x_for (rng1 p4 (by omega)) l1) (x_nx (x_share rfl rfl) (x_nx (x_f p5 rfl) (x_nx (x_f p6 rfl) (x_nx (x_asg p7 rfl rfl) (x_nx (x_for p8 m1) (x_nx (x_share rfl rfl) (x_nx (x_asg p9 rfl rfl) (x_rt (x_ret p10)))))))))))))⟩
end
end Gh
set_option linter.all false
set_option maxRecDepth 10000
namespace Gh
section
variable (n : Nat)
theorem h_do_cross {c : Cr} (k : c.Ok) (i j : Int) (s : Src) : run P (n + 1) "do_cross" [c.e, .int i, .int j] s = some (.bl (crs c i j), s) := do_cross_ev (Φ := run P n) i j k
theorem h_whole (i : Int) (s : Src) : run P (n + 1) "is_whole" [.int i] s = some (.bl true, s) := whole_ev (Φ := run P n) i
theorem h_integer (i : Int) (s : Src) : run P (n + 1) "is_integer" [.int i] s = some (.bl true, s) := integer_ev (Φ := run P n) i
theorem h_clearance (c : Cr) (i j : Int) (s : Src) : run P (n + 1) "clearance" [c.e, .int i, .int j] s = some (.int (clr c i j), s) := clearance_ev (Φ := run P n) i j
theorem h_lclearance (c : Cr) (i j : Int) (s : Src) : run P (n + 1) "_law_clearance" [c.e, .int i, .int j] s = some (clrT c i j, s) := lclearance_ev (Φ := run P n) i j
theorem h_foes {c : Cr} (k : c.Ok) (i : Int) (s : Src) : run P (n + 1) "foes_of" [c.e, .int i] s = some (eR (foes c i), s) := foes_ev (Φ := run P n) i k
theorem h_wid {c : Cr} (k : c.Ok) (s : Src) : run P (n + 1) "widest_clearance" [c.e] s = some (.int (wid c), s) := wid_ev (Φ := run P n) k
theorem h_new (c : Cr) (s : Src) : run P (n + 1) "new_interlock" [c.e] s = some ((idle 0).e, s) := new_ev (Φ := run P n)
theorem h_last (st : Ilk) (i : Int) (s : Src) : run P (n + 1) "last_green" [st.e, .int i] s = some (lastG st i, s) := last_green_ev (Φ := run P n) i
theorem h_lgreens {c : Cr} (k : c.Ok) (g : List Int) (s : Src) (h : Gr c g) : run P (n + 1) "_law_are_greens" [c.e, eR g] s = some (.bl true, s) := are_greens_ev (Φ := run P n) k h
theorem h_wishes (R : List (List Int)) (s : Src) (h : R.length ≤ 1000) : run P (n + 1) "wishes_for" [eT R, .int 0] s = some (.tup ((wishL R).map fun p => .tup [.int p.1, eR p.2, .int 1]), s) := wishes_ev (Φ := run P n) h
theorem h_cars {c : Cr} (k : c.Ok) (R : List (List Int)) (s : Src) (h : R.length ≤ 1000) : run P (n + 1) "cars_let" [c.e, eT R] s = some (eR ((iota c.n).map fun i => (adj R i : Int)), s) := cars_let_ev (Φ := run P n) k h
theorem h_pick : PickOk (run P (n + 1)) := fun m st h => by
  show pickF [.src, .int m] (some st) = _
  simp only [pickF, h, if_true]
theorem h_order : OrderOk (run P (n + 1)) := fun xs st h => by
  show orderF [.src, .lst xs] (some st) = _
  simp only [orderF, seqL, h, if_true]
theorem h_open (ns : List Int) (h : ns.length ≤ 1000) : ∃ st, run P (n + 1) "_law_open_cells" [.scr ns] none = some (.src, some st) := by
  refine ⟨{ cells := ns.map fun n => if n < 0 then -n else n, left := 1, mixed := stir0 11 ns, turn := 0 }, ?_⟩
  show openF [.scr ns] none = _
  simp only [openF, h, if_true]
theorem h_pair (p : Int × Int) (m : Int) (s : Src) : run P (n + 2) "is_pair" [e2 p, .int m] s = some (.bl ((decide (0 ≤ p.1) && decide (p.1 < m)) && decide (0 < p.2)), s) := is_pair_ev (Φ := run P (n + 1)) (h_integer n) p m
theorem h_greens {c : Cr} (k : c.Ok) (g : List Int) (s : Src) (h : Gr c g) : run P (n + 2) "is_greens" [c.e, eR g] s = some (.bl true, s) := is_greens_ev (Φ := run P (n + 1)) k (h_whole n) h
theorem h_barred {c : Cr} (k : c.Ok) (st : Ilk) (i : Int) (s : Src) : run P (n + 2) "is_barred" [c.e, st.e, .int i] s = some (.bl false, s) := barred_ev (Φ := run P (n + 1)) k i (h_foes n k i s)
theorem h_free {c : Cr} (k : c.Ok) (s : Src) : run P (n + 2) "free_sets" [c.e] s = some (.lst ((freeS c c.n).map eR), s) := free_sets_ev (Φ := run P (n + 1)) k (h_do_cross n k)
theorem h_full {c : Cr} (k : c.Ok) (one : List Int) (s : Src) (h : one.length ≤ 1000) : run P (n + 2) "is_full" [c.e, eR one] s = some (.bl (full c one), s) := is_full_ev (Φ := run P (n + 1)) k (h_do_cross n k) h
theorem h_lfoes {c : Cr} (k : c.Ok) (i : Int) (s : Src) : run P (n + 2) "_law_foes" [c.e, .int i] s = some (.lst (eL (lfoes c i)), s) := lfoes_ev (Φ := run P (n + 1)) k (h_lclearance n c) i
theorem h_crosses {c : Cr} (k : c.Ok) (lot : List Int) (i : Int) (s : Src) (h : lot.length ≤ 1000) : run P (n + 2) "_law_crosses_one" [c.e, .lst (eL lot), .int i] s = some (.bl (lot.any fun j => crs c i j), s) := crosses_one_ev (Φ := run P (n + 1)) k (h_lclearance n c) h i
theorem h_clearing {c : Cr} (k : c.Ok) (g : List Int) (s : Src) : run P (n + 2) "_law_clearing" [c.e, eR g] s = some (.int (clg c g), s) := law_clearing_ev (Φ := run P (n + 1)) k (h_lclearance n c) g
theorem h_tick {c : Cr} (k : c.Ok) {R : List (List Int)} (hT : Tale c R) (b : Nat) (g : List Int) (L : List (K × T)) (s : Src) (hb : R[b]? = some g) (hL : Mem R 1 b L) : run P (n + 2) "tick_fault" [c.e, eT R, .int ((b : Int) + 1), .dK L] s = some (.non, s) := tick_fault_ev (Φ := run P (n + 1)) k hT (h_foes n k) (h_clearance n c) hb hL
theorem h_first {c : Cr} (k : c.Ok) (st : Ilk) (i t : Int) (s : Src) (h : Due c st i t) : ∃ f, f ≤ t ∧ run P (n + 2) "first_tick" [c.e, st.e, .int i] s = some (.int f, s) := first_tick_ev (Φ := run P (n + 1)) k i t (h_foes n k) (h_wid n k) (h_last n st) (h_clearance n c) h
theorem h_crossed {c : Cr} (k : c.Ok) {R : List (List Int)} (hT : Tale c R) (s : Src) : run P (n + 2) "first_crossed" [c.e, eTl R] s = some (.non, s) := first_crossed_ev (Φ := run P (n + 1)) k hT (h_do_cross n k)
theorem h_early {c : Cr} (k : c.Ok) {R : List (List Int)} (hT : Tale c R) (s : Src) : run P (n + 2) "first_early" [c.e, eTl R] s = some (.non, s) := first_early_ev (Φ := run P (n + 1)) k hT (h_do_cross n k) (h_clearance n c)
theorem h_jlamps {c : Cr} (k : c.Ok) {R : List (List Int)} (hT : Tale c R) (s : Src) : run P (n + 3) "judge_lamps" [c.e, eTl R] s = some (.non, s) := judge_lamps_ev (Φ := run P (n + 2)) (h_crossed n k hT s) (h_early n k hT s)
theorem h_wish {c : Cr} (k : c.Ok) (m : Int) (g : List Int) (s : Src) (hm : 1 ≤ m) (h : Gr c g) : run P (n + 3) "is_wish" [c.e, .tup [.int m, eR g, .int 1]] s = some (.bl true, s) := is_wish_ev (Φ := run P (n + 2)) k (h_whole (n + 1)) (h_greens n k) hm h
theorem h_jtale {c : Cr} (k : c.Ok) {R : List (List Int)} (hT : Tale c R) (s : Src) : run P (n + 3) "judge_tale" [c.e, eT R] s = some (.non, s) := judge_tale_ev (Φ := run P (n + 2)) k hT (h_greens n k) (h_tick n k hT)
theorem h_stages {c : Cr} (k : c.Ok) (s : Src) : run P (n + 3) "stages" [c.e] s = some (.tup ((stg c).map eR), s) := stages_ev (Φ := run P (n + 2)) k (h_free n k) (h_full n k)
theorem h_lstages {c : Cr} (k : c.Ok) (s : Src) : run P (n + 3) "_law_stages" [c.e] s = some (.lst ((stg c).map eR), s) := law_stages_ev (Φ := run P (n + 2)) k (h_crosses n k)
theorem h_next {c : Cr} (k : c.Ok) (st : Ilk) (s : Src) (h : TickOk c st) : run P (n + 3) "next_shown" [c.e, st.e] s = some (.tup [st.next.e, eR st.want], s) := next_shown_ev (Φ := run P (n + 2)) k (h_barred n k st) (h_foes (n + 1) k) (h_first n k st) h.gr h.gl h.el h.hin h.hd
theorem h_fault {c : Cr} (k : c.Ok) {R : List (List Int)} (hT : Tale c R) (s : Src) : run P (n + 3) "_law_tale_fault" [c.e, eT R] s = some (.non, s) := tale_fault_ev (Φ := run P (n + 2)) k hT (h_lclearance (n + 1) c) (h_lfoes n k) (h_lgreens (n + 1) k)
theorem h_heard {c : Cr} (k : c.Ok) (st : Ilk) (m : Int) (g : List Int) (s : Src) (h : Gr c g) (hm : 1 ≤ m) (ht : st.taken < m) : run P (n + 4) "wish_heard" [c.e, st.e, .tup [.int m, eR g, .int 1]] s = some ((st.wish m g).e, s) := wish_heard_ev (Φ := run P (n + 3)) k (h_wish n k m g s hm h) ht
theorem h_clear {c : Cr} (k : c.Ok) (i : Int) (s : Src) (h : InS c i) : run P (n + 4) "clear_ticks" [c.e, .int i] s = some (.int (clg c (st_ c i)), s) := clear_ticks_ev (Φ := run P (n + 3)) k (h_clearance (n + 2) c) (h_stages n k) h
theorem h_cap {c : Cr} (k : c.Ok) {plan : Plan} (h : PlanOk c plan) (s : Src) : run P (n + 4) "capacity_of" [c.e, eP plan] s = some (eR (capL c plan), s) := capacity_ev (Φ := run P (n + 3)) k h (h_stages n k)
theorem h_lcap {c : Cr} (k : c.Ok) {plan : Plan} (h : PlanOk c plan) (s : Src) : run P (n + 4) "_law_capacity" [c.e, eP plan] s = some (eR (capL c plan), s) := law_capacity_ev (Φ := run P (n + 3)) k h (h_lstages n k)
theorem h_fits {c : Cr} (k : c.Ok) {plan : Plan} (h : PlanOk c plan) (s : Src) : run P (n + 4) "_law_plan_fits" [c.e, eP plan] s = some (.bl true, s) := law_fits_ev (Φ := run P (n + 3)) k h (h_lstages n k) (h_clearing (n + 1) k)
theorem h_plan {c : Cr} (k : c.Ok) (st : St) : ∃ plan st', PlanOk c plan ∧ run P (n + 4) "_law_draw_plan" [.src, c.e] (some st) = some (eP plan, some st') := plan_ev (Φ := run P (n + 3)) k (h_pick (n + 2)) (h_order (n + 2)) (h_lstages n k) (h_clearing (n + 1) k) st
theorem h_tale {c : Cr} (k : c.Ok) (hs : List Hap) (s : Src) (hl : hs.length ≤ 100000) (h : RunOk c (idle 0) hs) : run P (n + 5) "tale_of" [c.e, .lst (hs.map Hap.e)] s = some (.tup [(endH (idle 0) hs).e, eT (rowsH (idle 0) hs)], s) := tale_of_ev (Φ := run P (n + 4)) hs hl rfl (h_new (n + 3) c) (h_next (n + 1) k) (h_heard n k) h
theorem h_greensP {c : Cr} (k : c.Ok) {plan : Plan} (h : PlanOk c plan) (s : Src) : run P (n + 5) "greens" [c.e, eP plan] s = some (.tup ((sort3 (gr3 c plan 0)).map e3), s) := greens_ev (Φ := run P (n + 4)) k h (h_stages (n + 1) k) (h_clear n k)
theorem h_need {c : Cr} (k : c.Ok) {plan : Plan} (h : PlanOk c plan) (s : Src) : run P (n + 5) "need_of" [c.e, eP plan] s = some (.int (needP c plan), s) := need_of_ev (Φ := run P (n + 4)) k h (h_clear n k)
theorem h_lamps {c : Cr} (k : c.Ok) {plan : Plan} (h : PlanOk c plan) (x : Int) (s : Src) : run P (n + 6) "lamps_at" [c.e, eP plan, .int x] s = some (eR (rowAt c plan 0 x), s) := lamps_ev (Φ := run P (n + 5)) k h (h_greensP n k h) x
theorem h_jplan {c : Cr} (k : c.Ok) {plan : Plan} (h : PlanOk c plan) (s : Src) : run P (n + 6) "judge_plan" [c.e, eP plan] s = some (.non, s) := judge_plan_ev (Φ := run P (n + 5)) k h (h_stages (n + 2) k) (h_pair (n + 3)) (h_need n k h)
theorem h_crossing (st : St) : ∃ (c : Cr) (st' : St), c.Ok ∧ 6 ≤ c.len ∧ c.len ≤ 11 ∧ run P (n + 3) "_law_some_crossing" [.src] (some st) = some (c.e, some st') := by
  refine some_crossing_ev (Φ := run P (n + 2)) (h_pick (n + 1)) (fun k len st h1 h2 h3 h4 => ?_) st
  refine crossing_ev (Φ := run P (n + 1)) (h_pick n) (h_order n) (n := 4) (by decide) ?_ ?_ ⟨h3, h4⟩ st
  · intro e
    have := congrArg List.length e
    simp at this
    omega
  · simp; omega
end
theorem hyp9 : LawHyp (run P 9) where
  opn := fun ns h => h_open 8 ns h
  crossing := h_crossing 6
  pick := h_pick 8
  plan := fun c st k => h_plan 5 k st
  jplan := fun c plan s k h => h_jplan 3 k h s
  fits := fun c plan s k h => h_fits 5 k h s
  cap := fun c plan s k h => h_cap 5 k h s
  lcap := fun c plan s k h => h_lcap 5 k h s
  lamps := fun c plan x s k h => h_lamps 3 k h x s
  stages := fun c s k => h_lstages 6 k s
  clearing := fun c g s k => h_clearing 7 k g s
  fault := fun c R s k h => h_fault 6 k h s
  jtale := fun c R s k h => h_jtale 6 k h s
  jlamps := fun c R s k h => h_jlamps 6 k h s
  wid := fun c s k => h_wid 8 k s
  wishes := fun R s h => h_wishes 8 R s h
  tale := fun c hs s k hl h => h_tale 4 k hs s hl h
  cars := fun c R s k h => h_cars 8 k R s h
theorem pure_law (ns : List Int) (h : ns.length ≤ 63) : ∃ s', run P 10 "law" [.scr ns] none = some (.bl true, s') := law_ev hyp9 (by omega)
end Gh
set_option Elab.async false
set_option linter.all false
set_option maxRecDepth 100000
set_option maxHeartbeats 0
namespace Gh
open PySem PySem.Spec PyProof.Rows L2
def top (i : Nat) : Stmt := PySem.Challenge.pw_greenheld_k76_whole_plans_are_shown.main.body.getD i (.Pass ⟨0, 0, 0, 0⟩)
def usL : List (Str × String × Nat) := [(Str.ofString "is_integer", "is_integer", 1),
  (Str.ofString "do_cross", "do_cross", 3),
  (Str.ofString "clearance", "clearance", 3),
  (Str.ofString "is_whole", "is_whole", 1),
  (Str.ofString "foes_of", "foes_of", 2),
  (Str.ofString "widest_clearance", "widest_clearance", 1),
  (Str.ofString "is_greens", "is_greens", 2),
  (Str.ofString "new_interlock", "new_interlock", 1),
  (Str.ofString "is_wish", "is_wish", 2),
  (Str.ofString "wish_heard", "wish_heard", 3),
  (Str.ofString "is_lamp", "is_lamp", 2),
  (Str.ofString "lamp_heard", "lamp_heard", 3),
  (Str.ofString "last_green", "last_green", 2),
  (Str.ofString "is_barred", "is_barred", 3),
  (Str.ofString "first_tick", "first_tick", 3),
  (Str.ofString "next_shown", "next_shown", 2),
  (Str.ofString "tick_fault", "tick_fault", 4),
  (Str.ofString "judge_tale", "judge_tale", 2),
  (Str.ofString "cars_let", "cars_let", 2),
  (Str.ofString "tale_of", "tale_of", 2),
  (Str.ofString "wishes_for", "wishes_for", 2),
  (Str.ofString "free_sets", "free_sets", 1),
  (Str.ofString "is_full", "is_full", 2),
  (Str.ofString "stages", "stages", 1),
  (Str.ofString "clear_ticks", "clear_ticks", 2),
  (Str.ofString "greens", "greens", 2),
  (Str.ofString "lamps_at", "lamps_at", 3),
  (Str.ofString "first_crossed", "first_crossed", 2),
  (Str.ofString "first_early", "first_early", 2),
  (Str.ofString "judge_lamps", "judge_lamps", 2),
  (Str.ofString "need_of", "need_of", 2),
  (Str.ofString "is_pair", "is_pair", 2),
  (Str.ofString "judge_plan", "judge_plan", 2),
  (Str.ofString "capacity_of", "capacity_of", 2),
  (Str.ofString "_law_open_cells", "_law_open_cells", 1),
  (Str.ofString "_law_pick", "_law_pick", 2),
  (Str.ofString "_law_any_order", "_law_any_order", 2),
  (Str.ofString "_law_clearance", "_law_clearance", 3),
  (Str.ofString "_law_stages", "_law_stages", 1),
  (Str.ofString "_law_crosses_one", "_law_crosses_one", 3),
  (Str.ofString "_law_clearing", "_law_clearing", 2),
  (Str.ofString "_law_capacity", "_law_capacity", 2),
  (Str.ofString "_law_plan_fits", "_law_plan_fits", 2),
  (Str.ofString "_law_draw_crossing", "_law_draw_crossing", 4),
  (Str.ofString "_law_draw_plan", "_law_draw_plan", 2),
  (Str.ofString "_law_foes", "_law_foes", 2),
  (Str.ofString "_law_some_crossing", "_law_some_crossing", 1),
  (Str.ofString "_law_are_greens", "_law_are_greens", 2),
  (Str.ofString "_law_tale_fault", "_law_tale_fault", 2),
  (Str.ofString "law", "law", 1)]
def r_is_integer : DRow := ⟨"is_integer", top 1, ["value"], ["value"], .code d_is_integer⟩
def r_do_cross : DRow := ⟨"do_cross", top 2, ["crossing", "i", "j", "four"], ["crossing", "i", "j"], .code d_do_cross⟩
def r_clearance : DRow := ⟨"clearance", top 3, ["crossing", "i", "j", "one", "other", "after", "back"], ["crossing", "i", "j"], .code d_clearance⟩
def r_is_whole : DRow := ⟨"is_whole", top 5, ["value"], ["value"], .code d_is_whole⟩
def r_foes_of : DRow := ⟨"foes_of", top 6, ["crossing", "i", "a", "b", "_"], ["crossing", "i"], .code d_foes_of⟩
def r_widest_clearance : DRow := ⟨"widest_clearance", top 7, ["crossing", "one"], ["crossing"], .code d_widest_clearance⟩
def r_is_greens : DRow := ⟨"is_greens", top 8, ["crossing", "value", "early", "late", "one"], ["crossing", "value"], .code d_is_greens⟩
def r_new_interlock : DRow := ⟨"new_interlock", top 9, ["crossing", "start"], ["crossing"], .code d_new_interlock⟩
def r_is_wish : DRow := ⟨"is_wish", top 10, ["crossing", "value", "number", "movements", "ticks"], ["crossing", "value"], .code d_is_wish⟩
def r_wish_heard : DRow := ⟨"wish_heard", top 11, ["crossing", "interlock", "value", "number", "movements", "ticks"], ["crossing", "interlock", "value"], .code d_wish_heard⟩
def r_is_lamp : DRow := ⟨"is_lamp", top 12, ["crossing", "value"], ["crossing", "value"], .code d_is_lamp⟩
def r_lamp_heard : DRow := ⟨"lamp_heard", top 13, ["crossing", "interlock", "value", "colour", "i", "is_lit", "field", "others", "late", "ended", "one", "pair"], ["crossing", "interlock", "value"], .code d_lamp_heard⟩
def r_last_green : DRow := ⟨"last_green", top 14, ["interlock", "i"], ["interlock", "i"], .code d_last_green⟩
def r_is_barred : DRow := ⟨"is_barred", top 15, ["crossing", "interlock", "i", "foe"], ["crossing", "interlock", "i"], .code d_is_barred⟩
def r_first_tick : DRow := ⟨"first_tick", top 16, ["crossing", "interlock", "i", "found", "foe", "last"], ["crossing", "interlock", "i"], .code d_first_tick⟩
def r_next_shown : DRow := ⟨"next_shown", top 17, ["crossing", "interlock", "t", "wanted", "shown", "i", "greens", "ended", "pair", "foe"], ["crossing", "interlock"], .code d_next_shown⟩
def r_tick_fault : DRow := ⟨"tick_fault", top 19, ["crossing", "tale", "t", "last", "greens", "ahead", "i", "j"], ["crossing", "tale", "t", "last"], .code d_tick_fault⟩
def r_judge_tale : DRow := ⟨"judge_tale", top 20, ["crossing", "tale", "last", "k", "greens", "fault", "i"], ["crossing", "tale"], .code d_judge_tale⟩
def r_cars_let : DRow := ⟨"cars_let", top 21, ["crossing", "tale", "found", "i", "ticks", "greens", "early", "late"], ["crossing", "tale"], .code d_cars_let⟩
def r_tale_of : DRow := ⟨"tale_of", top 22, ["crossing", "happenings", "interlock", "tale", "happening", "greens"], ["crossing", "happenings"], .code d_tale_of⟩
def r_wishes_for : DRow := ⟨"wishes_for", top 23, ["tale", "first", "k", "greens"], ["tale", "first"], .code d_wishes_for⟩
def r_free_sets : DRow := ⟨"free_sets", top 25, ["crossing", "found", "i", "one", "j"], ["crossing"], .code d_free_sets⟩
def r_is_full : DRow := ⟨"is_full", top 26, ["crossing", "some", "others", "i", "j"], ["crossing", "some"], .code d_is_full⟩
def r_stages : DRow := ⟨"stages", top 27, ["crossing", "some"], ["crossing"], .code d_stages⟩
def r_clear_ticks : DRow := ⟨"clear_ticks", top 28, ["crossing", "s", "many", "i", "j"], ["crossing", "s"], .code d_clear_ticks⟩
def r_greens : DRow := ⟨"greens", top 30, ["crossing", "plan", "every", "found", "tick", "s", "ticks", "i"], ["crossing", "plan"], .code d_greens⟩
def r_lamps_at : DRow := ⟨"lamps_at", top 31, ["crossing", "plan", "tick", "i", "begin", "end"], ["crossing", "plan", "tick"], .code d_lamps_at⟩
def r_first_crossed : DRow := ⟨"first_crossed", top 32, ["crossing", "rows", "tick", "row", "i", "j"], ["crossing", "rows"], .code d_first_crossed⟩
def r_first_early : DRow := ⟨"first_early", top 33, ["crossing", "rows", "last", "tick", "row", "ahead", "i", "j"], ["crossing", "rows"], .code d_first_early⟩
def r_judge_lamps : DRow := ⟨"judge_lamps", top 34, ["crossing", "rows", "fault"], ["crossing", "rows"], .code d_judge_lamps⟩
def r_need_of : DRow := ⟨"need_of", top 36, ["crossing", "plan", "s", "ticks"], ["crossing", "plan"], .code d_need_of⟩
def r_is_pair : DRow := ⟨"is_pair", top 37, ["value", "many"], ["value", "many"], .code d_is_pair⟩
def r_judge_plan : DRow := ⟨"judge_plan", top 38, ["crossing", "value", "many", "k", "need", "pair"], ["crossing", "value"], .code d_judge_plan⟩
def r_capacity_of : DRow := ⟨"capacity_of", top 39, ["crossing", "plan", "every", "found", "s", "ticks", "i", "movement"], ["crossing", "plan"], .code d_capacity_of⟩
def r__law_open_cells : DRow := ⟨"_law_open_cells", top 41, ["script", "stirred", "cell", "cells"], ["script"], .prim openF⟩
def r__law_pick : DRow := ⟨"_law_pick", top 42, ["source", "most", "cells", "others", "lap", "stirred"], ["source", "most"], .prim pickF⟩
def r__law_any_order : DRow := ⟨"_law_any_order", top 43, ["source", "things", "others", "lap"], ["source", "things"], .prim orderF⟩
def r__law_clearance : DRow := ⟨"_law_clearance", top 44, ["crossing", "i", "j", "a", "b", "late", "early"], ["crossing", "i", "j"], .code d__law_clearance⟩
def r__law_stages : DRow := ⟨"_law_stages", top 45, ["crossing", "many", "lots", "i", "found", "lot"], ["crossing"], .code d__law_stages⟩
def r__law_crosses_one : DRow := ⟨"_law_crosses_one", top 46, ["crossing", "lot", "i", "j"], ["crossing", "lot", "i"], .code d__law_crosses_one⟩
def r__law_clearing : DRow := ⟨"_law_clearing", top 47, ["crossing", "stage", "found", "i", "j"], ["crossing", "stage"], .code d__law_clearing⟩
def r__law_capacity : DRow := ⟨"_law_capacity", top 48, ["crossing", "plan", "stages_v", "found", "s", "ticks", "i", "movement"], ["crossing", "plan"], .code d__law_capacity⟩
def r__law_plan_fits : DRow := ⟨"_law_plan_fits", top 49, ["crossing", "plan", "stages_v", "s", "ticks"], ["crossing", "plan"], .code d__law_plan_fits⟩
def r__law_draw_crossing : DRow := ⟨"_law_draw_crossing", top 50, ["source", "n", "mine", "length", "movements", "q", "ways", "lap", "movement", "crossed", "i", "j", "one"], ["source", "n", "mine", "length"], .code d__law_draw_crossing⟩
def r__law_draw_plan : DRow := ⟨"_law_draw_plan", top 51, ["source", "crossing", "plan", "rest", "stages_v", "s", "room", "ticks"], ["source", "crossing"], .code d__law_draw_plan⟩
def r__law_foes : DRow := ⟨"_law_foes", top 52, ["crossing", "i", "j"], ["crossing", "i"], .code d__law_foes⟩
def r__law_some_crossing : DRow := ⟨"_law_some_crossing", top 53, ["source", "crossing"], ["source"], .code d__law_some_crossing⟩
def r__law_are_greens : DRow := ⟨"_law_are_greens", top 54, ["crossing", "value", "one"], ["crossing", "value"], .code d__law_are_greens⟩
def r__law_tale_fault : DRow := ⟨"_law_tale_fault", top 55, ["crossing", "tale", "last", "k", "greens_v", "ahead", "both", "i", "early", "j"], ["crossing", "tale"], .code d__law_tale_fault⟩
def r_law : DRow := ⟨"law", top 56, ["script", "source", "crossing", "many", "tale", "due", "lap", "plan", "told", "rows", "stages_v", "i", "one", "other", "is_on", "happenings", "wish", "shown", "tick"], ["script"], .code d_law⟩
def rows : List DRow := [r_is_integer, r_do_cross, r_clearance, r_is_whole, r_foes_of, r_widest_clearance, r_is_greens, r_new_interlock, r_is_wish, r_wish_heard, r_is_lamp, r_lamp_heard, r_last_green, r_is_barred, r_first_tick, r_next_shown, r_tick_fault, r_judge_tale, r_cars_let, r_tale_of, r_wishes_for, r_free_sets, r_is_full, r_stages, r_clear_ticks, r_greens, r_lamps_at, r_first_crossed, r_first_early, r_judge_lamps, r_need_of, r_is_pair, r_judge_plan, r_capacity_of, r__law_open_cells, r__law_pick, r__law_any_order, r__law_clearance, r__law_stages, r__law_crosses_one, r__law_clearing, r__law_capacity, r__law_plan_fits, r__law_draw_crossing, r__law_draw_plan, r__law_foes, r__law_some_crossing, r__law_are_greens, r__law_tale_fault, r_law]
theorem hus : usL = rows.map DRow.us := by rfl
theorem k_is_integer : RowOk usL r_is_integer := ⟨⟨rfl, rfl, rfl, by decide +kernel, rfl, by decide +kernel, by decide +kernel⟩, fun _ _ _ _ _ _ us hl => match us, hl with | [_], _ => rfl, fun d h => by cases h; exact ⟨by decide +kernel, rfl, rfl⟩⟩
theorem k_do_cross : RowOk usL r_do_cross := ⟨⟨rfl, rfl, rfl, by decide +kernel, rfl, by decide +kernel, by decide +kernel⟩, fun _ _ _ _ _ _ us hl => match us, hl with | [_, _, _], _ => rfl, fun d h => by cases h; exact ⟨by decide +kernel, rfl, rfl⟩⟩
theorem k_clearance : RowOk usL r_clearance := ⟨⟨rfl, rfl, rfl, by decide +kernel, rfl, by decide +kernel, by decide +kernel⟩, fun _ _ _ _ _ _ us hl => match us, hl with | [_, _, _], _ => rfl, fun d h => by cases h; exact ⟨by decide +kernel, rfl, rfl⟩⟩
theorem k_is_whole : RowOk usL r_is_whole := ⟨⟨rfl, rfl, rfl, by decide +kernel, rfl, by decide +kernel, by decide +kernel⟩, fun _ _ _ _ _ _ us hl => match us, hl with | [_], _ => rfl, fun d h => by cases h; exact ⟨by decide +kernel, rfl, rfl⟩⟩
theorem k_foes_of : RowOk usL r_foes_of := ⟨⟨rfl, rfl, rfl, by decide +kernel, rfl, by decide +kernel, by decide +kernel⟩, fun _ _ _ _ _ _ us hl => match us, hl with | [_, _], _ => rfl, fun d h => by cases h; exact ⟨by decide +kernel, rfl, rfl⟩⟩
theorem k_widest_clearance : RowOk usL r_widest_clearance := ⟨⟨rfl, rfl, rfl, by decide +kernel, rfl, by decide +kernel, by decide +kernel⟩, fun _ _ _ _ _ _ us hl => match us, hl with | [_], _ => rfl, fun d h => by cases h; exact ⟨by decide +kernel, rfl, rfl⟩⟩
theorem k_is_greens : RowOk usL r_is_greens := ⟨⟨rfl, rfl, rfl, by decide +kernel, rfl, by decide +kernel, by decide +kernel⟩, fun _ _ _ _ _ _ us hl => match us, hl with | [_, _], _ => rfl, fun d h => by cases h; exact ⟨by decide +kernel, rfl, rfl⟩⟩
theorem k_new_interlock : RowOk usL r_new_interlock := ⟨⟨rfl, rfl, rfl, by decide +kernel, rfl, by decide +kernel, by decide +kernel⟩, fun _ _ _ _ _ _ us hl => match us, hl with | [_], _ => rfl, fun d h => by cases h; exact ⟨by decide +kernel, rfl, rfl⟩⟩
theorem k_is_wish : RowOk usL r_is_wish := ⟨⟨rfl, rfl, rfl, by decide +kernel, rfl, by decide +kernel, by decide +kernel⟩, fun _ _ _ _ _ _ us hl => match us, hl with | [_, _], _ => rfl, fun d h => by cases h; exact ⟨by decide +kernel, rfl, rfl⟩⟩
theorem k_wish_heard : RowOk usL r_wish_heard := ⟨⟨rfl, rfl, rfl, by decide +kernel, rfl, by decide +kernel, by decide +kernel⟩, fun _ _ _ _ _ _ us hl => match us, hl with | [_, _, _], _ => rfl, fun d h => by cases h; exact ⟨by decide +kernel, rfl, rfl⟩⟩
theorem k_is_lamp : RowOk usL r_is_lamp := ⟨⟨rfl, rfl, rfl, by decide +kernel, rfl, by decide +kernel, by decide +kernel⟩, fun _ _ _ _ _ _ us hl => match us, hl with | [_, _], _ => rfl, fun d h => by cases h; exact ⟨by decide +kernel, rfl, rfl⟩⟩
theorem k_lamp_heard : RowOk usL r_lamp_heard := ⟨⟨rfl, rfl, rfl, by decide +kernel, rfl, by decide +kernel, by decide +kernel⟩, fun _ _ _ _ _ _ us hl => match us, hl with | [_, _, _], _ => rfl, fun d h => by cases h; exact ⟨by decide +kernel, rfl, rfl⟩⟩
theorem k_last_green : RowOk usL r_last_green := ⟨⟨rfl, rfl, rfl, by decide +kernel, rfl, by decide +kernel, by decide +kernel⟩, fun _ _ _ _ _ _ us hl => match us, hl with | [_, _], _ => rfl, fun d h => by cases h; exact ⟨by decide +kernel, rfl, rfl⟩⟩
theorem k_is_barred : RowOk usL r_is_barred := ⟨⟨rfl, rfl, rfl, by decide +kernel, rfl, by decide +kernel, by decide +kernel⟩, fun _ _ _ _ _ _ us hl => match us, hl with | [_, _, _], _ => rfl, fun d h => by cases h; exact ⟨by decide +kernel, rfl, rfl⟩⟩
theorem k_first_tick : RowOk usL r_first_tick := ⟨⟨rfl, rfl, rfl, by decide +kernel, rfl, by decide +kernel, by decide +kernel⟩, fun _ _ _ _ _ _ us hl => match us, hl with | [_, _, _], _ => rfl, fun d h => by cases h; exact ⟨by decide +kernel, rfl, rfl⟩⟩
theorem k_next_shown : RowOk usL r_next_shown := ⟨⟨rfl, rfl, rfl, by decide +kernel, rfl, by decide +kernel, by decide +kernel⟩, fun _ _ _ _ _ _ us hl => match us, hl with | [_, _], _ => rfl, fun d h => by cases h; exact ⟨by decide +kernel, rfl, rfl⟩⟩
theorem k_tick_fault : RowOk usL r_tick_fault := ⟨⟨rfl, rfl, rfl, by decide +kernel, rfl, by decide +kernel, by decide +kernel⟩, fun _ _ _ _ _ _ us hl => match us, hl with | [_, _, _, _], _ => rfl, fun d h => by cases h; exact ⟨by decide +kernel, rfl, rfl⟩⟩
theorem k_judge_tale : RowOk usL r_judge_tale := ⟨⟨rfl, rfl, rfl, by decide +kernel, rfl, by decide +kernel, by decide +kernel⟩, fun _ _ _ _ _ _ us hl => match us, hl with | [_, _], _ => rfl, fun d h => by cases h; exact ⟨by decide +kernel, rfl, rfl⟩⟩
theorem k_cars_let : RowOk usL r_cars_let := ⟨⟨rfl, rfl, rfl, by decide +kernel, rfl, by decide +kernel, by decide +kernel⟩, fun _ _ _ _ _ _ us hl => match us, hl with | [_, _], _ => rfl, fun d h => by cases h; exact ⟨by decide +kernel, rfl, rfl⟩⟩
theorem k_tale_of : RowOk usL r_tale_of := ⟨⟨rfl, rfl, rfl, by decide +kernel, rfl, by decide +kernel, by decide +kernel⟩, fun _ _ _ _ _ _ us hl => match us, hl with | [_, _], _ => rfl, fun d h => by cases h; exact ⟨by decide +kernel, rfl, rfl⟩⟩
theorem k_wishes_for : RowOk usL r_wishes_for := ⟨⟨rfl, rfl, rfl, by decide +kernel, rfl, by decide +kernel, by decide +kernel⟩, fun _ _ _ _ _ _ us hl => match us, hl with | [_, _], _ => rfl, fun d h => by cases h; exact ⟨by decide +kernel, rfl, rfl⟩⟩
theorem k_free_sets : RowOk usL r_free_sets := ⟨⟨rfl, rfl, rfl, by decide +kernel, rfl, by decide +kernel, by decide +kernel⟩, fun _ _ _ _ _ _ us hl => match us, hl with | [_], _ => rfl, fun d h => by cases h; exact ⟨by decide +kernel, rfl, rfl⟩⟩
theorem k_is_full : RowOk usL r_is_full := ⟨⟨rfl, rfl, rfl, by decide +kernel, rfl, by decide +kernel, by decide +kernel⟩, fun _ _ _ _ _ _ us hl => match us, hl with | [_, _], _ => rfl, fun d h => by cases h; exact ⟨by decide +kernel, rfl, rfl⟩⟩
theorem k_stages : RowOk usL r_stages := ⟨⟨rfl, rfl, rfl, by decide +kernel, rfl, by decide +kernel, by decide +kernel⟩, fun _ _ _ _ _ _ us hl => match us, hl with | [_], _ => rfl, fun d h => by cases h; exact ⟨by decide +kernel, rfl, rfl⟩⟩
theorem k_clear_ticks : RowOk usL r_clear_ticks := ⟨⟨rfl, rfl, rfl, by decide +kernel, rfl, by decide +kernel, by decide +kernel⟩, fun _ _ _ _ _ _ us hl => match us, hl with | [_, _], _ => rfl, fun d h => by cases h; exact ⟨by decide +kernel, rfl, rfl⟩⟩
theorem k_greens : RowOk usL r_greens := ⟨⟨rfl, rfl, rfl, by decide +kernel, rfl, by decide +kernel, by decide +kernel⟩, fun _ _ _ _ _ _ us hl => match us, hl with | [_, _], _ => rfl, fun d h => by cases h; exact ⟨by decide +kernel, rfl, rfl⟩⟩
theorem k_lamps_at : RowOk usL r_lamps_at := ⟨⟨rfl, rfl, rfl, by decide +kernel, rfl, by decide +kernel, by decide +kernel⟩, fun _ _ _ _ _ _ us hl => match us, hl with | [_, _, _], _ => rfl, fun d h => by cases h; exact ⟨by decide +kernel, rfl, rfl⟩⟩
theorem k_first_crossed : RowOk usL r_first_crossed := ⟨⟨rfl, rfl, rfl, by decide +kernel, rfl, by decide +kernel, by decide +kernel⟩, fun _ _ _ _ _ _ us hl => match us, hl with | [_, _], _ => rfl, fun d h => by cases h; exact ⟨by decide +kernel, rfl, rfl⟩⟩
theorem k_first_early : RowOk usL r_first_early := ⟨⟨rfl, rfl, rfl, by decide +kernel, rfl, by decide +kernel, by decide +kernel⟩, fun _ _ _ _ _ _ us hl => match us, hl with | [_, _], _ => rfl, fun d h => by cases h; exact ⟨by decide +kernel, rfl, rfl⟩⟩
theorem k_judge_lamps : RowOk usL r_judge_lamps := ⟨⟨rfl, rfl, rfl, by decide +kernel, rfl, by decide +kernel, by decide +kernel⟩, fun _ _ _ _ _ _ us hl => match us, hl with | [_, _], _ => rfl, fun d h => by cases h; exact ⟨by decide +kernel, rfl, rfl⟩⟩
theorem k_need_of : RowOk usL r_need_of := ⟨⟨rfl, rfl, rfl, by decide +kernel, rfl, by decide +kernel, by decide +kernel⟩, fun _ _ _ _ _ _ us hl => match us, hl with | [_, _], _ => rfl, fun d h => by cases h; exact ⟨by decide +kernel, rfl, rfl⟩⟩
theorem k_is_pair : RowOk usL r_is_pair := ⟨⟨rfl, rfl, rfl, by decide +kernel, rfl, by decide +kernel, by decide +kernel⟩, fun _ _ _ _ _ _ us hl => match us, hl with | [_, _], _ => rfl, fun d h => by cases h; exact ⟨by decide +kernel, rfl, rfl⟩⟩
theorem k_judge_plan : RowOk usL r_judge_plan := ⟨⟨rfl, rfl, rfl, by decide +kernel, rfl, by decide +kernel, by decide +kernel⟩, fun _ _ _ _ _ _ us hl => match us, hl with | [_, _], _ => rfl, fun d h => by cases h; exact ⟨by decide +kernel, rfl, rfl⟩⟩
theorem k_capacity_of : RowOk usL r_capacity_of := ⟨⟨rfl, rfl, rfl, by decide +kernel, rfl, by decide +kernel, by decide +kernel⟩, fun _ _ _ _ _ _ us hl => match us, hl with | [_, _], _ => rfl, fun d h => by cases h; exact ⟨by decide +kernel, rfl, rfl⟩⟩
theorem k__law_open_cells : RowOk usL r__law_open_cells := ⟨⟨rfl, rfl, rfl, by decide +kernel, rfl, by decide +kernel, by decide +kernel⟩, fun _ _ _ _ _ _ us hl => match us, hl with | [_], _ => rfl, fun d h => by cases h⟩
theorem k__law_pick : RowOk usL r__law_pick := ⟨⟨rfl, rfl, rfl, by decide +kernel, rfl, by decide +kernel, by decide +kernel⟩, fun _ _ _ _ _ _ us hl => match us, hl with | [_, _], _ => rfl, fun d h => by cases h⟩
theorem k__law_any_order : RowOk usL r__law_any_order := ⟨⟨rfl, rfl, rfl, by decide +kernel, rfl, by decide +kernel, by decide +kernel⟩, fun _ _ _ _ _ _ us hl => match us, hl with | [_, _], _ => rfl, fun d h => by cases h⟩
theorem k__law_clearance : RowOk usL r__law_clearance := ⟨⟨rfl, rfl, rfl, by decide +kernel, rfl, by decide +kernel, by decide +kernel⟩, fun _ _ _ _ _ _ us hl => match us, hl with | [_, _, _], _ => rfl, fun d h => by cases h; exact ⟨by decide +kernel, rfl, rfl⟩⟩
theorem k__law_stages : RowOk usL r__law_stages := ⟨⟨rfl, rfl, rfl, by decide +kernel, rfl, by decide +kernel, by decide +kernel⟩, fun _ _ _ _ _ _ us hl => match us, hl with | [_], _ => rfl, fun d h => by cases h; exact ⟨by decide +kernel, rfl, rfl⟩⟩
theorem k__law_crosses_one : RowOk usL r__law_crosses_one := ⟨⟨rfl, rfl, rfl, by decide +kernel, rfl, by decide +kernel, by decide +kernel⟩, fun _ _ _ _ _ _ us hl => match us, hl with | [_, _, _], _ => rfl, fun d h => by cases h; exact ⟨by decide +kernel, rfl, rfl⟩⟩
theorem k__law_clearing : RowOk usL r__law_clearing := ⟨⟨rfl, rfl, rfl, by decide +kernel, rfl, by decide +kernel, by decide +kernel⟩, fun _ _ _ _ _ _ us hl => match us, hl with | [_, _], _ => rfl, fun d h => by cases h; exact ⟨by decide +kernel, rfl, rfl⟩⟩
theorem k__law_capacity : RowOk usL r__law_capacity := ⟨⟨rfl, rfl, rfl, by decide +kernel, rfl, by decide +kernel, by decide +kernel⟩, fun _ _ _ _ _ _ us hl => match us, hl with | [_, _], _ => rfl, fun d h => by cases h; exact ⟨by decide +kernel, rfl, rfl⟩⟩
theorem k__law_plan_fits : RowOk usL r__law_plan_fits := ⟨⟨rfl, rfl, rfl, by decide +kernel, rfl, by decide +kernel, by decide +kernel⟩, fun _ _ _ _ _ _ us hl => match us, hl with | [_, _], _ => rfl, fun d h => by cases h; exact ⟨by decide +kernel, rfl, rfl⟩⟩
theorem k__law_draw_crossing : RowOk usL r__law_draw_crossing := ⟨⟨rfl, rfl, rfl, by decide +kernel, rfl, by decide +kernel, by decide +kernel⟩, fun _ _ _ _ _ _ us hl => match us, hl with | [_, _, _, _], _ => rfl, fun d h => by cases h; exact ⟨by decide +kernel, rfl, rfl⟩⟩
theorem k__law_draw_plan : RowOk usL r__law_draw_plan := ⟨⟨rfl, rfl, rfl, by decide +kernel, rfl, by decide +kernel, by decide +kernel⟩, fun _ _ _ _ _ _ us hl => match us, hl with | [_, _], _ => rfl, fun d h => by cases h; exact ⟨by decide +kernel, rfl, rfl⟩⟩
theorem k__law_foes : RowOk usL r__law_foes := ⟨⟨rfl, rfl, rfl, by decide +kernel, rfl, by decide +kernel, by decide +kernel⟩, fun _ _ _ _ _ _ us hl => match us, hl with | [_, _], _ => rfl, fun d h => by cases h; exact ⟨by decide +kernel, rfl, rfl⟩⟩
theorem k__law_some_crossing : RowOk usL r__law_some_crossing := ⟨⟨rfl, rfl, rfl, by decide +kernel, rfl, by decide +kernel, by decide +kernel⟩, fun _ _ _ _ _ _ us hl => match us, hl with | [_], _ => rfl, fun d h => by cases h; exact ⟨by decide +kernel, rfl, rfl⟩⟩
theorem k__law_are_greens : RowOk usL r__law_are_greens := ⟨⟨rfl, rfl, rfl, by decide +kernel, rfl, by decide +kernel, by decide +kernel⟩, fun _ _ _ _ _ _ us hl => match us, hl with | [_, _], _ => rfl, fun d h => by cases h; exact ⟨by decide +kernel, rfl, rfl⟩⟩
theorem k__law_tale_fault : RowOk usL r__law_tale_fault := ⟨⟨rfl, rfl, rfl, by decide +kernel, rfl, by decide +kernel, by decide +kernel⟩, fun _ _ _ _ _ _ us hl => match us, hl with | [_, _], _ => rfl, fun d h => by cases h; exact ⟨by decide +kernel, rfl, rfl⟩⟩
theorem k_law : RowOk usL r_law := ⟨⟨rfl, rfl, rfl, by decide +kernel, rfl, by decide +kernel, by decide +kernel⟩, fun _ _ _ _ _ _ us hl => match us, hl with | [_], _ => rfl, fun d h => by cases h; exact ⟨by decide +kernel, rfl, rfl⟩⟩
theorem rows_ok : ∀ r ∈ rows, RowOk usL r := by
  simp only [rows, List.forall_mem_cons, List.not_mem_nil, false_implies, implies_true, and_true]
  exact ⟨k_is_integer, k_do_cross, k_clearance, k_is_whole, k_foes_of, k_widest_clearance, k_is_greens, k_new_interlock, k_is_wish, k_wish_heard, k_is_lamp, k_lamp_heard, k_last_green, k_is_barred, k_first_tick, k_next_shown, k_tick_fault, k_judge_tale, k_cars_let, k_tale_of, k_wishes_for, k_free_sets, k_is_full, k_stages, k_clear_ticks, k_greens, k_lamps_at, k_first_crossed, k_first_early, k_judge_lamps, k_need_of, k_is_pair, k_judge_plan, k_capacity_of, k__law_open_cells, k__law_pick, k__law_any_order, k__law_clearance, k__law_stages, k__law_crosses_one, k__law_clearing, k__law_capacity, k__law_plan_fits, k__law_draw_crossing, k__law_draw_plan, k__law_foes, k__law_some_crossing, k__law_are_greens, k__law_tale_fault, k_law⟩
theorem rows_P : ∀ r ∈ rows, P r.x = some r.df := by
  simp only [rows, List.forall_mem_cons, List.not_mem_nil, false_implies, implies_true, and_true]
  exact ⟨rfl, rfl, rfl, rfl, rfl, rfl, rfl, rfl, rfl, rfl, rfl, rfl, rfl, rfl, rfl, rfl, rfl, rfl, rfl, rfl, rfl, rfl, rfl, rfl, rfl, rfl, rfl, rfl, rfl, rfl, rfl, rfl, rfl, rfl, rfl, rfl, rfl, rfl, rfl, rfl, rfl, rfl, rfl, rfl, rfl, rfl, rfl, rfl, rfl, rfl⟩

/-! ### the source's own defs -/
theorem roomU {k : Nat} {A : Around} (r : Room k A) : A.units + 1 < cLine := by have := r.un; omega
theorem vr {X : Cx} {x : Str} {p : Pos} (i : Nat) (h0 : X.N[i]? = some x := by rfl) (v : Vis X.env.scope x := by first | exact .inl rfl | exact .inr (.inl rfl) | exact .inr (.inr rfl)) (hd : (x == ("__debug__" : Str)) = false := by decide) (hcd : (x == ("__classdict__" : Str)) = false := by decide) : PE X (.Name x p) (tVar i) := pe_var h0 v hd hcd
section
variable {PP : Program} {w : World} {K : PySem.W.Frag} {mg : Str → Option Value} {base : Heap} {f : Addr} {fd : FuncData}
theorem ok_pick (hbl : ∀ n ∈ blN, mg n = none) (Fd : FnD K r__law_pick f fd) : FnOk PP w K mg base L2.CX0 1 f fd r__law_pick.ps (Spec K pickF 2) := by
  refine Fd.ok k__law_pick.sc (fun vs H Q E h => h.1) (fun cdv A outer s H vs Q E hr h => ⟨tPick K, PSs.nox ?_, pick_run rfl h⟩)
  have nd := k__law_pick.sc.nd
  have hu := roomU hr
  have bInt := hbl "int" (by decide +kernel)
  have bLen := hbl "len" (by decide +kernel)
  refine pss_cons (ps_if (pt_cmp (pc_lt (vr 1) pe_int)) (pss_one (ps_ret pe_int)) pss_nil)
    (pss_cons (ps_set (i := 2) nd rfl (by first | exact .inl rfl | exact .inr rfl) (pe_ix (ix_dict hu) (vr 0) pe_str fun _ _ => rfl))
    (pss_cons (ps_while PassesOwn.never (PW.pt (pw_and (pt_cmp (pc_lt (pe_ix (ix_dict hu) (vr 0) pe_str fun _ _ => rfl) pe_int)) (pw_and1 (pt_cmp (pc_gt (pe_callB call_len rfl bLen boot_len (pa_cons (vr 2) pa_nil)) pe_int)))))
      (pss_one (ps_asg (pe_bm0 F.plainAttrs_list F.slot_list_pop F.type_list_pop mt_pop (vr 2)) (pg_sub (vr 0) pe_str (set_any hu)))))
    (pss_cons (ps_set (i := 3) nd rfl (by first | exact .inl rfl | exact .inr rfl) (pe_ix (ix_dict hu) (vr 0) pe_str fun _ _ => rfl))
    (pss_cons (ps_if (pt_cmp (pc_gt (vr 3) pe_int)) (pss_cons (ps_asg (pe_op op_fdiv (vr 3) (vr 1)) (pg_sub (vr 0) pe_str (set_any hu))) (pss_one (ps_ret (pe_op op_mod (pe_callTy call_int1 rfl bInt boot_int (pa_cons (vr 3) pa_nil)) (vr 1))))) pss_nil)
    (pss_cons (ps_asg (pe_op op_add (pe_ix (ix_dict hu) (vr 0) pe_str fun _ _ => rfl) pe_int) (pg_sub (vr 0) pe_str (set_any hu)))
    (pss_cons (ps_set (i := 4) nd rfl (by first | exact .inl rfl | exact .inr rfl) (pe_ix (ix_dict hu) (vr 0) pe_str fun _ _ => rfl))
    (pss_cons (ps_set (i := 5) nd rfl (by first | exact .inl rfl | exact .inr rfl) (pe_op op_mod (pe_callTy call_int1 rfl bInt boot_int (pa_cons (pe_op op_add (pe_ix (ix_dict hu) (vr 0) pe_str fun _ _ => rfl) (pe_op op_mul (vr 4) pe_int)) pa_nil)) pe_int))
    (pss_cons (ps_set (i := 5) nd rfl (by first | exact .inl rfl | exact .inr rfl) (pe_op op_mod (pe_callTy call_int1 rfl bInt boot_int (pa_cons (pe_op op_add (pe_op op_mul (vr 5) (vr 5)) (pe_op op_mul (vr 4) pe_int)) pa_nil)) pe_int))
    (pss_one (ps_ret (pe_op op_mod (pe_callTy call_int1 rfl bInt boot_int (pa_cons (pe_op op_fdiv (vr 5) pe_int) pa_nil)) (vr 1))))))))))))
theorem ok_open (hbl : ∀ n ∈ blN, mg n = none) (Fd : FnD K r__law_open_cells f fd) : FnOk PP w K mg base L2.CX0 1 f fd r__law_open_cells.ps (Spec K openF 1) := by
  refine Fd.ok k__law_open_cells.sc (fun vs H Q E h => h.1) (fun cdv A outer s H vs Q E hr h => ⟨tOpen K, PSs.nox ?_, open_run rfl h⟩)
  have nd := k__law_open_cells.sc.nd
  have hu := roomU hr
  have bInt := hbl "int" (by decide +kernel)
  have bAbs := hbl "abs" (by decide +kernel)
  refine pss_cons (ps_set (i := 1) nd rfl (.inl rfl) pe_int)
    (pss_cons (ps_for PassesOwn.never rfl (pi_list (vr 0)) (pg_name (i := 2) nd rfl (.inl rfl)) (pss_one (ps_set (i := 1) nd rfl (by first | exact .inl rfl | exact .inr rfl) (pe_op op_mod (pe_callTy call_int1 rfl bInt boot_int (pa_cons (pe_op op_add (pe_op op_add (pe_op op_mul (vr 1) pe_int) (pe_op op_mul (vr 2) pe_int)) pe_int) pa_nil)) pe_int))))
    (pss_cons (ps_setLc (i := 3) (own := [("cell", 2)]) rfl nd rfl rfl rfl (pi_list (vr 0)) (show BlkOk r__law_open_cells.N (defScope r__law_open_cells.st) _ _ from blkOk_by (by decide +kernel)) (fun _ _ _ _ _ => pg_name (i := 2) nd rfl (.inl rfl)) (fun _ _ _ _ _ => pts_nil) (fun _ _ _ _ _ => pe_callB call_abs rfl bAbs boot_abs (pa_cons (vr 2) pa_nil)))
    (pss_one (ps_ret (pe_disp (pps_cons pe_str (pe_revL (vr 3)) (pps_cons pe_str pe_int (pps_cons pe_str (vr 1) (pps_cons pe_str pe_int pps_nil)))) rfl rfl (by simp) (by decide))))))
theorem ok_order (hbl : ∀ n ∈ blN, mg n = none) {fp : Addr} {fdp : FuncData} (Fp : FnD K r__law_pick fp fdp) (hp : mg "_law_pick" = some (.ref fp)) (Fd : FnD K r__law_any_order f fd) : FnOk PP w K mg base L2.CX0 2 f fd r__law_any_order.ps (Spec K orderF 2) := by
  refine Fd.ok k__law_any_order.sc (fun vs H Q E h => h.1) (fun cdv A outer s H vs Q E hr h => ⟨tOrder K, PSs.nox ?_, order_run rfl h⟩)
  have nd := k__law_any_order.sc.nd
  have hu := roomU hr
  have bLen := hbl "len" (by decide +kernel)
  have bList := hbl "list" (by decide +kernel)
  have bRange := hbl "range" (by decide +kernel)
  refine pss_cons (ps_set (i := 2) nd rfl (by first | exact .inl rfl | exact .inr rfl) (s_bi (fun t ha => pe_callTy (cr_listA rfl) rfl bList boot_list ha) f_list (s_var (m := true) (vr 1)) rfl))
    (pss_one (ps_ret (pe_lc (own := [("lap", 3)]) rfl nd (pi_range1 rfl bRange (pa_cons (pe_callB call_len rfl bLen boot_len (pa_cons (vr 2) pa_nil)) pa_nil)) (show BlkOk r__law_any_order.N (defScope r__law_any_order.st) _ _ from blkOk_by (by decide +kernel)) (fun _ _ _ _ _ => pg_name (i := 3) nd rfl (.inl rfl)) (fun _ _ _ _ _ => pts_nil)
      (fun _ _ _ _ _ => pe_bm F.plainAttrs_list F.slot_list_pop F.type_list_pop mt_popAt (vr 2) (pa_cons (pe_call (ok_pick hbl Fp) hr rfl hp Fp.kp (Fp.bindsN k__law_pick.bn) .nil pass0 (pa_cons (vr 0) (pa_cons (pe_callB call_len rfl bLen boot_len (pa_cons (vr 2) pa_nil)) pa_nil))) pa_nil))))) 
end
section
variable {PP : Program} {w : World} {K : PySem.W.Frag} {mg : Str → Option Value} {base : Heap}
def PrimOk (PP : Program) (w : World) (K : PySem.W.Frag) (mg : Str → Option Value) (base : Heap) (r : DRow) : Prop := ∀ F, r.df = .prim F → ∀ (f : Addr) (fd : FuncData), FnD K r f fd → FnOk PP w K mg base L2.CX0 2 f fd r.ps (Spec K F r.ps.length)
theorem rows_prim (hbl : ∀ n ∈ blN, mg n = none) (hfd : ∀ r ∈ rows, ∃ (f : Addr) (fd : FuncData), FnD K r f fd ∧ mg (Str.ofString r.x) = some (.ref f)) :
    ∀ r ∈ rows, PrimOk PP w K mg base r := by
  obtain ⟨fp, fdp, Fp, hp⟩ := hfd r__law_pick (by simp [rows])
  simp only [rows, List.forall_mem_cons, List.not_mem_nil, false_implies, implies_true, and_true]
  exact ⟨(fun F h => by cases h), (fun F h => by cases h), (fun F h => by cases h), (fun F h => by cases h), (fun F h => by cases h), (fun F h => by cases h), (fun F h => by cases h), (fun F h => by cases h), (fun F h => by cases h), (fun F h => by cases h), (fun F h => by cases h), (fun F h => by cases h), (fun F h => by cases h), (fun F h => by cases h), (fun F h => by cases h), (fun F h => by cases h), (fun F h => by cases h), (fun F h => by cases h), (fun F h => by cases h), (fun F h => by cases h), (fun F h => by cases h), (fun F h => by cases h), (fun F h => by cases h), (fun F h => by cases h), (fun F h => by cases h), (fun F h => by cases h), (fun F h => by cases h), (fun F h => by cases h), (fun F h => by cases h), (fun F h => by cases h), (fun F h => by cases h), (fun F h => by cases h), (fun F h => by cases h), (fun F h => by cases h), (fun F h f fd D => by cases h; exact (ok_open hbl D).mono (by decide)), (fun F h f fd D => by cases h; exact (ok_pick hbl D).mono (by decide)), (fun F h f fd D => by cases h; exact ok_order hbl Fp hp D), (fun F h => by cases h), (fun F h => by cases h), (fun F h => by cases h), (fun F h => by cases h), (fun F h => by cases h), (fun F h => by cases h), (fun F h => by cases h), (fun F h => by cases h), (fun F h => by cases h), (fun F h => by cases h), (fun F h => by cases h), (fun F h => by cases h), (fun F h => by cases h)⟩
end
/-! ### the head -/
def ddOf (r : DRow) : He.DefD := ⟨(Str.ofString r.x, none), Str.ofString r.x, Str.ofString r.x, defArgs r.st, defBody r.st, defScope r.st, [], []⟩
def fnL : List He.DefD := rows.map ddOf
def faL : List He.Fa := rows.map (fun r => .glo (Str.ofString r.x)) ++ blN.map .free
abbrev RW : PySem.W.OpenRow := PySem.W.OpenLaw.row PySem.Challenge.rw_greenheld_k76_whole_plans_are_shown
abbrev hk : PySem.W.Hook := He.hookD 4 faL fnL
def ob (s : PySem.W.SharedT) : He.AlD := He.obsDG 4 faL fnL (HandSHeadRun.getT s)
theorem ob_eq (s : PySem.W.SharedT) : ob s = hk.obs s.abs := He.obsDG_eq (HandSHeadRun.getT_eq s)
def loose : List Str := (["is_integer", "do_cross", "clearance", "is_whole", "foes_of", "widest_clearance", "is_greens", "new_interlock", "is_wish", "wish_heard", "is_lamp", "lamp_heard", "last_green", "is_barred", "first_tick", "next_shown", "tick_fault", "judge_tale", "cars_let", "tale_of", "wishes_for", "free_sets", "is_full", "stages", "clear_ticks", "greens", "lamps_at", "first_crossed", "first_early", "judge_lamps"] : List Str) ++ (["need_of", "is_pair", "judge_plan", "capacity_of", "_law_open_cells", "_law_pick", "_law_any_order", "_law_clearance", "_law_stages", "_law_crosses_one", "_law_clearing", "_law_capacity", "_law_plan_fits", "_law_draw_crossing", "_law_draw_plan", "_law_foes", "_law_some_crossing", "_law_are_greens", "_law_tale_fault"] : List Str)
theorem headRun (w : World) : HandSHeadRun.RunEq RW (PySem.W.view RW.prog [56]) hk ob 4000 loose w := by
  intro os
  kernel_rfl
theorem facts_all {K : PySem.W.Frag} {h : Heap} {mg : Str → Option Value} (X : K.In h) (G : h.Ns mainGlobals mg) (c : He.SaysD faL fnL K) :
    (∀ r ∈ rows, ∃ (f : Addr) (fd : FuncData), FnD K r f fd ∧ mg (Str.ofString r.x) = some (.ref f)) ∧ ∀ n ∈ blN, mg n = none := by
  constructor
  · intro r hr
    obtain ⟨i, hi⟩ := List.mem_iff_getElem?.mp hr
    have hil : i < rows.length := (List.getElem?_eq_some_iff.mp hi).1
    obtain ⟨fd, D⟩ := c.def_ i (d := ddOf r) (by show (rows.map ddOf)[i]? = _; rw [List.getElem?_map, hi]; rfl)
    refine ⟨_, fd, D, He.glo_ok X G (c.fact i (f := .glo (Str.ofString r.x)) ?_)⟩
    show (rows.map _ ++ _)[i]? = _
    rw [List.getElem?_append_left (by simpa using hil), List.getElem?_map, hi]
    rfl
  · intro n hn
    obtain ⟨i, hi⟩ := List.mem_iff_getElem?.mp hn
    refine He.free_ok X G (c.fact (rows.length + i) (f := .free n) ?_)
    show (rows.map _ ++ _)[_]? = _
    rw [List.getElem?_append_right (by simp), List.length_map, Nat.add_sub_cancel_left, List.getElem?_map, hi]
    rfl
end Gh
open PySem PySem.W PySem.Calls PyProof.Rows
theorem PySem.Challenge.cw_greenheld_k76_whole_plans_are_shown_of (pure_law : ∀ ns : List Int, ns.length ≤ 63 → ∃ s', Gh.run Gh.P 10 "law" [.scr ns] none = some (.bl true, s')) : PySem.Challenge.rw_greenheld_k76_whole_plans_are_shown.Holds := by
  w_on; o_law
  refine HandSHeadRun.head_any (r := OpenLaw.row PySem.Challenge.rw_greenheld_k76_whole_plans_are_shown) (q := view (OpenLaw.row PySem.Challenge.rw_greenheld_k76_whole_plans_are_shown).prog [56]) (H := Gh.hk) (ob := Gh.ob) (M := 4000) (loose := Gh.loose) (d := HandSHeadRun.topDef (OpenLaw.row PySem.Challenge.rw_greenheld_k76_whole_plans_are_shown).prog 56) (kwd := []) Gh.ob_eq
    (by kernel_rfl) (fun s => by kernel_rfl) Gh.headRun (by kernel_rfl) (by kernel_rfl) (by kernel_rfl) (by rfl) (by first | assumption | decide +kernel) (by decide +kernel) ⟨rfl, rfl, rfl, rfl, rfl, by decide +kernel⟩ ?hw ?hc
  case hw => w_witness2
  case hc =>
    refine L2.walk_ofE (l := PySem.Challenge.rw_greenheld_k76_whole_plans_are_shown) (n := 63) (k := 10 + 2) (x := "script") (CX := L2.CX0) rfl (by decide) (by kernel_rfl) ⟨rfl, by decide, by decide⟩ ?F (fun _ _ _ _ z => z)
    intro w mg fa h Y G hmg0
    obtain ⟨K, KX, c⟩ := Y
    have hmg : mg (PySem.Str.ofString "law") = some (.ref fa) := by
      have e : (HandSHeadRun.topDef (OpenLaw.row PySem.Challenge.rw_greenheld_k76_whole_plans_are_shown).prog 56).name = PySem.Str.ofString "law" := by kernel_rfl
      rw [← e]
      exact hmg0
    obtain ⟨hfd, hbl⟩ := Gh.facts_all KX G c
    obtain ⟨f2, fd, D, hm2⟩ := hfd Gh.r_law (by simp [Gh.rows])
    have e := hmg.symm.trans hm2
    cases e
    have b := D.bindsA (ps := [PySem.Str.ofString "script"]) (Gh.k_law).bn
    refine ⟨K, fd, Gh.Spec K (Gh.run Gh.P 10 "law") 1, KX, fun s v => b s [v] rfl, fun H a ns hl _ hS => ?_, fun base _ _ => ?_⟩
    · obtain ⟨s', e⟩ := pure_law ns hl
      exact Gh.spec_law hS e
    · exact Gh.levels Gh.hus Gh.rows_P hfd hbl Gh.rows_ok (Gh.rows_prim hbl hfd) 10 Gh.r_law (by simp [Gh.rows]) fa fd D
theorem PySem.Challenge.cw_greenheld_k76_whole_plans_are_shown_holds : PySem.Challenge.rw_greenheld_k76_whole_plans_are_shown.Holds := by
  exact PySem.Challenge.cw_greenheld_k76_whole_plans_are_shown_of Gh.pure_law

