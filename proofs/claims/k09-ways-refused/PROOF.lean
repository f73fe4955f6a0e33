import PyProof.Rows.All
import Wide.All
import OpenK.AllK
import Wide.FinOn
import HandS.ForMost
import HandS.ForExc
import HandS.Lambda
import HandS.Nested
import HandS.HeadHook2
import HandS.Style
import HandS.TupLe
import HandS.Star
import HandS.Flow
import HandS.TryMany
import HandS.Wide
import HandS.IsInst
import HandS.Strs
import HandS.TupSets
import HandS.Conv
import KE.KDictKeyed
import KE.SortData
import KE.DataEq
import KE.DataCmp
import HandS.TupAny
import HandS.TupMul
import HandS.Deep
import HandS.Steps
import KE.KDictPairs
import HandS.Comp
import HandS.RaiseMore
import HandS.Small
import HandS.IterVal
import PyProof.Rows.SetFrom
import HandS.Base
import HandS.Call
import HandS.List
import HandS.Set
import HandS.SetKeys
import HandS.SortInts
import HandS.ExcInit
import KE.KSuper
import KE.KExcSuper
import HandS.HeadWalk
import HandS.ExcField
import HandS.Text
import HandS.Codes
import HandS.Defaults
import HandS.HeadHook4
import HandS.NestedK
import HandS.Head0
import HandS.Head1
import HandS.Head2
import HandS.HeadEnd
import PySem.Challenge.RW_silentdecks_k09_ways_refused
section
set_option linter.all false
/-! P-lang: a small interpreter of the Python subset of the laws and the program. Values are data; a list or dict that is
changed is owned by one slot of a frame. -/
namespace PL

abbrev Txt := List Nat

inductive D where
  | non
  | bl (b : Bool)
  | int (i : Int)
  | str (x : Txt)
  | tup (xs : List D)
  | lst (xs : List D)
  | dct (kvs : List (D × D))
  | fn (name : String)
  deriving Inhabited, Repr

/-- how a call or an evaluation ends -/
inductive Res (α : Type) where
  | ok (a : α)
  | exc (c : String) (ps : List D)
  | stuck
  deriving Inhabited, Repr

@[inline] def Res.bind {α β : Type} : Res α → (α → Res β) → Res β
  | .ok a, f => f a
  | .exc c ps, _ => .exc c ps
  | .stuck, _ => .stuck
instance : Monad Res where
  pure := .ok
  bind := Res.bind

def ofO {α : Type} : Option α → Res α
  | some a => .ok a
  | none => .stuck
/-- no exception is let through -/
def Res.noexc {α : Type} : Res α → Res α
  | .ok a => .ok a
  | _ => .stuck
def guardR (b : Bool) : Res Unit := if b then .ok () else .stuck

/-! ### data -/
def lineN : Nat := 16777216

mutual
/-- no dict, no function within -/
def D.plain : D → Bool
  | .dct _ => false
  | .fn _ => false
  | .tup xs => plainAll xs
  | .lst xs => plainAll xs
  | _ => true
def plainAll : List D → Bool
  | [] => true
  | x :: xs => x.plain && plainAll xs
end
mutual
def D.depth : D → Nat
  | .tup xs => depthAll xs + 1
  | .lst xs => depthAll xs + 1
  | _ => 0
def depthAll : List D → Nat
  | [] => 0
  | x :: xs => max x.depth (depthAll xs)
end
mutual
/-- Python's == on plain data -/
def D.eqv : D → D → Bool
  | .non, .non => true
  | .bl a, .bl b => a == b
  | .bl a, .int j => decide ((if a then 1 else 0) = j)
  | .int i, .bl b => decide (i = (if b then 1 else 0))
  | .int i, .int j => decide (i = j)
  | .str x, .str y => decide (x = y)
  | .tup xs, .tup ys => eqvAll xs ys
  | .lst xs, .lst ys => eqvAll xs ys
  | _, _ => false
def eqvAll : List D → List D → Bool
  | [], [] => true
  | x :: xs, y :: ys => x.eqv y && eqvAll xs ys
  | _, _ => false
end
mutual
/-- what may be a key: intsD, texts, None, tuples of these -/
def D.keyable : D → Bool
  | .non => true
  | .int _ => true
  | .str _ => true
  | .tup xs => keyableAll xs
  | _ => false
def keyableAll : List D → Bool
  | [] => true
  | x :: xs => x.keyable && keyableAll xs
end
/-- a key of a dict -/
def D.keyOk (d : D) : Bool := match d with
  | .tup xs => keyableAll xs && decide (depthAll xs < 8)
  | _ => false
/-- a member of a set -/
def D.setOk (d : D) : Bool := d.keyable && decide (d.depth ≤ 8)
/-- == of data that may be compared -/
def eqD (a b : D) : Option Bool := if a.plain && b.plain && decide (a.depth ≤ 64) && decide (b.depth ≤ 64) then some (a.eqv b) else none

mutual
/-- of one kind at every place, so that < is defined -/
def D.alike : D → D → Bool
  | .non, .non => true
  | .bl _, .bl _ => true
  | .int _, .int _ => true
  | .str _, .str _ => true
  | .tup xs, .tup ys => alikeAll xs ys
  | .lst xs, .lst ys => alikeAll xs ys
  | _, _ => false
def alikeAll : List D → List D → Bool
  | x :: xs, y :: ys => x.alike y && alikeAll xs ys
  | [], _ => true
  | _ :: _, [] => true
end
/-- < of texts -/
def ltTxt : Txt → Txt → Bool
  | [], [] => false
  | [], _ :: _ => true
  | _ :: _, [] => false
  | x :: xs, y :: ys => if x = y then ltTxt xs ys else decide (x < y)
mutual
/-- < of alike data -/
def D.lt : D → D → Bool
  | .int i, .int j => decide (i < j)
  | .bl a, .bl b => !a && b
  | .str x, .str y => ltTxt x y
  | .tup xs, .tup ys => ltAll xs ys
  | .lst xs, .lst ys => ltAll xs ys
  | _, _ => false
def ltAll : List D → List D → Bool
  | [], [] => false
  | [], _ :: _ => true
  | _ :: _, [] => false
  | x :: xs, y :: ys => if x.eqv y then ltAll xs ys else x.lt y
end
/-- a flat or nested tuple that is not empty, an int, a text: what a sort's items may be -/
def D.sorts : D → Bool
  | .int _ => true
  | .str _ => true
  | .tup (_ :: _) => true
  | _ => false
def ltD (a b : D) : Option Bool := match a, b with
  | .int i, .int j => some (decide (i < j))
  | .tup xs, .tup ys => if alikeAll xs ys && plainAll xs && plainAll ys && decide (depthAll xs ≤ 32) && decide (depthAll ys ≤ 32) then some (ltAll xs ys) else none
  | _, _ => none

def insD (x : D) : List D → List D
  | [] => [x]
  | y :: ys => if y.lt x then y :: insD x ys else x :: y :: ys
def isort : List D → List D
  | [] => []
  | x :: xs => insD x (isort xs)
def alikeHead : List D → Bool
  | [] => true
  | x :: xs => xs.all fun y => x.alike y
def pairsAlike : List D → Bool
  | [] => true
  | x :: xs => xs.all (fun y => x.alike y && y.alike x) && pairsAlike xs
def sameSort : D → D → Bool
  | .tup _, .tup _ => true
  | .int _, .int _ => true
  | .str _, .str _ => true
  | _, _ => false
/-- sorted(xs) -/
def sortD (xs : List D) : Option (List D) :=
  if pairsAlike xs && (xs.all fun x => x.sorts && x.alike x && x.plain && decide (x.depth ≤ 32)) && decide (xs.length ≤ lineN) then some (isort xs) else none

/-! equality of keys: structural -/
mutual
def D.same : D → D → Bool
  | .non, .non => true
  | .bl a, .bl b => a == b
  | .int i, .int j => decide (i = j)
  | .str x, .str y => decide (x = y)
  | .tup xs, .tup ys => sameAll xs ys
  | .lst xs, .lst ys => sameAll xs ys
  | .dct xs, .dct ys => samePairs xs ys
  | .fn x, .fn y => decide (x = y)
  | _, _ => false
def sameAll : List D → List D → Bool
  | [], [] => true
  | x :: xs, y :: ys => x.same y && sameAll xs ys
  | _, _ => false
def samePairs : List (D × D) → List (D × D) → Bool
  | [], [] => true
  | (k, v) :: xs, (k', v') :: ys => k.same k' && v.same v' && samePairs xs ys
  | _, _ => false
end

/-- the different items, each at its first place -/
def dedupGo : List D → List D → List D
  | [], acc => acc.reverse
  | x :: xs, acc => if acc.any (x.same ·) then dedupGo xs acc else dedupGo xs (x :: acc)
def dedup (xs : List D) : List D := dedupGo xs []
def setOf (xs : List D) : Option (List D) := if xs.all D.setOk then some (dedup xs) else none

def dget (kvs : List (D × D)) (k : D) : Option D := match kvs with
  | [] => none
  | (k', v) :: r => if k'.same k then some v else dget r k
def dput (kvs : List (D × D)) (k v : D) : List (D × D) := match kvs with
  | [] => [(k, v)]
  | (k', v') :: r => if k'.same k then (k', v) :: r else (k', v') :: dput r k v
def ddel (kvs : List (D × D)) (k : D) : List (D × D) := match kvs with
  | [] => []
  | (k', v') :: r => if k'.same k then r else (k', v') :: ddel r k
def dkeys (kvs : List (D × D)) : List D := kvs.map (·.1)
def dvals (kvs : List (D × D)) : List D := kvs.map (·.2)
def dfill : List D → List (D × D) → Option (List (D × D))
  | [], acc => some acc
  | .tup [k, v] :: r, acc => if k.keyOk then dfill r (dput acc k v) else none
  | _, _ => none

/-! ### places -/
/-- the place i of n, counted from the end if i is below 0 -/
def ixN (n : Nat) : Int → Option Nat
  | .ofNat k => if k < n then some k else none
  | .negSucc k => if k < n then some (n - 1 - k) else none
def atI {α : Type} (xs : List α) (i : Int) : Option α := match ixN xs.length i with
  | some j => xs[j]?
  | none => none
/-- where a cut begins or ends -/
def sIx (n : Nat) (dflt : Nat) (o : Option Int) : Nat := match o with
  | none => dflt
  | some (.ofNat k) => min k n
  | some (.negSucc k) => n - (k + 1)
def cut {α : Type} (xs : List α) (lo hi : Option Int) : List α := (xs.drop (sIx xs.length 0 lo)).take (sIx xs.length xs.length hi - sIx xs.length 0 lo)

/-! ### texts -/
def digits : Nat → Nat → Txt → Txt
  | 0, _, acc => acc
  | f + 1, n, acc => if n < 10 then (48 + n) :: acc else digits f (n / 10) ((48 + n % 10) :: acc)
def strInt (i : Int) : Txt := if i < 0 then 45 :: digits (i.natAbs + 1) i.natAbs [] else digits (i.natAbs + 1) i.natAbs []
def startsW : Txt → Txt → Bool
  | [], _ => true
  | _ :: _, [] => false
  | x :: xs, y :: ys => decide (x = y) && startsW xs ys
/-- s.split(sep): cur the part under way, backwards -/
def splitGo (sep : Txt) : Nat → Txt → Txt → List Txt
  | 0, _, cur => [cur.reverse]
  | f + 1, s, cur => match s with
    | [] => [cur.reverse]
    | c :: r => if startsW sep (c :: r) then cur.reverse :: splitGo sep f ((c :: r).drop sep.length) [] else splitGo sep f r (c :: cur)
def split (s sep : Txt) : List Txt := splitGo sep (s.length + 1) s []
def joinT (sep : Txt) : List Txt → Txt
  | [] => []
  | [x] => x
  | x :: y :: r => x ++ sep ++ joinT sep (y :: r)
def countT (s sub : Txt) : Nat := (split s sub).length - 1
def digitsVal : Txt → Nat → Option Nat
  | [], acc => some acc
  | c :: r, acc => if 48 ≤ c ∧ c ≤ 57 then digitsVal r (acc * 10 + (c - 48)) else none
/-- int(s) of plain figures -/
def intT (s : Txt) : Option Int := if s.isEmpty || decide (640 < s.length) then none else (digitsVal s 0).map Int.ofNat

/-! ### slots -/
/-- a field of an instance -/
inductive FV where
  | d (x : D)
  | l (xs : List D)
  | k (kvs : List (D × D))
  deriving Inhabited, Repr
/-- what is owned -/
inductive OV where
  | l (xs : List D)
  | k (kvs : List (D × D))
  | kk (kvs : List (D × List (D × D)))
  | kl (kvs : List (D × List D))
  | o (cls : String) (fs : List (String × FV))
  deriving Inhabited, Repr
inductive SV where
  | d (x : D)
  | w (x : OV)
  | lam (n : Nat)
  | ali (i : Nat) (key : D)
  deriving Inhabited, Repr
abbrev Env := List (Option SV)
/-- what an expression gives: data; a new object; the object of a slot; of a field of a slot -/
inductive AV where
  | v (d : D)
  | f (x : OV)
  | r (i : Nat)
  | p (i : Nat) (x : String)
  deriving Inhabited, Repr

def OV.data : OV → Option D
  | .l xs => some (.lst xs)
  | .k kvs => some (.dct kvs)
  | .kk kvs => some (.dct (kvs.map fun p => (p.1, .dct p.2)))
  | .kl kvs => some (.dct (kvs.map fun p => (p.1, .lst p.2)))
  | .o _ _ => none
def FV.data : FV → D
  | .d x => x
  | .l xs => .lst xs
  | .k kvs => .dct kvs
def slot (ρ : Env) (i : Nat) : Option SV := (ρ[i]?).join
def getF (fs : List (String × FV)) (x : String) : Option FV := match fs with
  | [] => none
  | (y, v) :: r => if y = x then some v else getF r x
def putF (fs : List (String × FV)) (x : String) (v : FV) : List (String × FV) := match fs with
  | [] => [(x, v)]
  | (y, u) :: r => if y = x then (y, v) :: r else (y, u) :: putF r x v
/-- as it stands -/
def look (ρ : Env) : AV → Option D
  | .v d => some d
  | .f x => x.data
  | .r i => match slot ρ i with
    | some (.d x) => some x
    | some (.w x) => x.data
    | some (.ali j k) => match slot ρ j with
      | some (.w (.kk kvs)) => match kvs.find? (fun p => p.1.same k) with
        | some p => some (.dct p.2)
        | none => none
      | _ => none
    | _ => none
  | .p i x => match slot ρ i with
    | some (.w (.o _ fs)) => (getF fs x).map FV.data
    | _ => none
/-- for good: an owned object that is taken is not changed any more -/
def take (ρ : Env) : AV → Option (D × Env)
  | .v d => some (d, ρ)
  | .f x => x.data.map fun d => (d, ρ)
  | .r i => match slot ρ i with
    | some (.d x) => some (x, ρ)
    | some (.w x) => x.data.map fun d => (d, ρ.set i (some (.d d)))
    | _ => none
  | .p i x => match slot ρ i with
    | some (.w (.o _ fs)) => match getF fs x with
      | some (.d d) => some (d, ρ)
      | _ => none
    | _ => none

/-! ### syntax -/
inductive Bin where | add | sub | mul | mod | fdiv | pow deriving Repr, DecidableEq
inductive Cmp where | eq | ne | lt | le | gt | ge | isin | notin | is | isnot deriving Repr, DecidableEq
inductive B1 where | len | tuple | list | dict | lenset | sortset | sorted | all | int | abs | sum | str | min | max | values | sortitems deriving Repr, DecidableEq
inductive Kind where | int | bool | tuple | list | str | tuplist deriving Repr, DecidableEq
inductive Tg where | one (i : Nat) | many (is : List Nat) deriving Repr

mutual
inductive E where
  | lrep (es : Es) (k : E)
  | var (i : Nat)
  | con (d : D)
  | glo (x : String) (i : Int)
  | fnv (x : String)
  | bin (op : Bin) (a b : E)
  | neg (a : E)
  | not (a : E)
  | and (a b : E)
  | or (a b : E)
  | cmp (op : Cmp) (a b : E)
  | chain (op op' : Cmp) (a b c : E)
  | ite (c a b : E)
  | tup (es : Es)
  | lst (es : Es)
  | dic0
  | dic1 (k v : E)
  | sub (a i : E)
  | slice (a : E) (lo hi : Oe)
  | comp (own : List Nat) (tg : Tg) (src : Src) (cnd : Oe) (elt : E)
  | comp2 (own : List Nat) (tg : Tg) (src : Src) (tg1 : Tg) (src1 : Src) (cnd : Oe) (elt : E)
  | call (f : String) (args : Es)
  | callv (i : Nat) (args : Es)
  | lamc (i n : Nat) (body : E)
  | told (f : String) (body : E)
  | b1 (op : B1) (a : E)
  | min2 (a b : E)
  | isi (k : Kind) (a : E)
  | lrange (a : E)
  | lenset (a : E)
  | trange (a : E)
  | fld (a : E) (x : String)
  | new (c : String) (args : Es)
  | meth (m : String) (recv : E) (args : Es)
  | append (a x : E)
  | extend (a x : E)
  | pop (a : E)
  | popi (a i : E)
  | get1 (a k : E)
  | get2 (a k x : E)
  | index (a x : E)
  | split (a s : E)
  | join (a x : E)
  | count (a x : E)
  | sortkey (a : E) (f : String)
inductive Es where
  | nil
  | cons (e : E) (es : Es)
  | star (e : E) (es : Es)
inductive Oe where
  | none
  | some (e : E)
inductive Src where
  | e (a : E)
  | rng1 (a : E)
  | rng2 (a b : E)
end

mutual
inductive S where
  | asg (i : Nat) (e : E)
  | own (i : Nat) (e : E)
  | asgT (is : List Nat) (e : E)
  | par (is : List (Nat × Bool)) (es : Es)
  | setI (a i x : E)
  | setT (a i b j : E) (x y : E)
  | setF (i : Nat) (x : String) (e : E)
  | setdefA (j i : Nat) (k : E)
  | setdefL (i : Nat) (k n j x : E)
  | expr (e : E)
  | ite (c : E) (a b : Ss)
  | for (tg : Tg) (src : Src) (b : Ss)
  | whl (c : E) (b : Ss)
  | ret (e : E)
  | retN
  | raise (c : String) (es : Es)
  | lamdef (i n : Nat)
  | fz (is : List Nat) (s : S)
  | never
inductive Ss where
  | nil
  | cons (s : S) (r : Ss)
end

inductive RV where
  | v (d : D)
  | f (x : OV)
  deriving Inhabited, Repr
inductive Fl where
  | nx
  | rt (r : RV)
  deriving Inhabited, Repr

/-- the fields of an own exception's class, in the order of its arguments -/
def flds : String → List String
  | "BadWay" => ["word", "node"]
  | "BadText" => ["line"]
  | "TooMany" => ["most"]
  | _ => []
/-- an own exception with two fields, the first a text -/
def excOk (cl : String) : List D → Bool
  | [.str x, d] => decide (x.length ≤ 1000) && d.keyable && decide ((flds cl).length = 2)
  | _ => false
/-- what an except clause hands back -/
inductive HE where
  | cat (k : Nat)
  | con (d : D)
  | fld (n : Nat)
  | fldOr (n : Nat) (d : D)
  | tup (hs : List HE)
structure TDef where
  ret : Bool
  hs : List (String × HE)
  fin : D
  cs : List String
structure Def where
  io : List Bool
  ns : Nat
  body : Ss
/-- the surroundings -/
structure Ctx where
  io : String → Option (List Bool)
  call : String → List SV → Res (RV × List OV)
  told : String → Option TDef
  wf : Nat

/-- str(x).lower() of an int of one figure, or of None -/
def lowS : D → Option Txt
  | .non => some [110, 111, 110, 101]
  | .int i => if 0 ≤ i ∧ i ≤ 9 then some [48 + i.toNat] else none
  | _ => none
mutual
def HE.val : HE → List D → Option D
  | .cat _, ps => match ps with
    | [.str x, y] => match lowS y with
      | some z => if x.length ≤ 1000 then some (.str (x ++ z)) else none
      | none => none
    | _ => none
  | .con d, _ => some d
  | .fld n, ps => ps[n]?
  | .fldOr n d, ps => match ps[n]? with
    | some .non => some d
    | some x => some x
    | none => none
  | .tup hs, ps => (heVals hs ps).map .tup
def heVals : List HE → List D → Option (List D)
  | [], _ => some []
  | h :: hs, ps => match h.val ps, heVals hs ps with
    | some x, some xs => some (x :: xs)
    | _, _ => none
end
def subCls (c h : String) : Bool := c == h || h == "DeckError"
def handle (hs : List (String × HE)) (c : String) (ps : List D) : Res D := match hs with
  | [] => .exc c ps
  | (h, e) :: r => if subCls c h then ofO (e.val ps) else handle r c ps

/-! ### operators by values -/
@[irreducible] def mulOk (i j : Int) : Bool := decide (i.natAbs < 2 ^ 200000) && decide (j.natAbs < 2 ^ 200000)
def addD : D → D → Option AV
  | .int i, .int j => some (.v (.int (i + j)))
  | .str x, .str y => if x.length + y.length ≤ lineN then some (.v (.str (x ++ y))) else none
  | .tup xs, .tup ys => if xs.length + ys.length ≤ lineN then some (.v (.tup (xs ++ ys))) else none
  | .lst xs, .lst ys => if xs.length + ys.length ≤ lineN then some (.f (.l (xs ++ ys))) else none
  | _, _ => none
def subtD : D → D → Option AV
  | .int i, .int j => some (.v (.int (i - j)))
  | _, _ => none
def mulD : D → D → Option AV
  | .int i, .int j => if mulOk i j then some (.v (.int (i * j))) else none
  | .tup xs, .int k => if xs ≠ [] ∧ 1 ≤ k ∧ k ≤ 1000 ∧ xs.length ≤ 1000 then some (.v (.tup (List.replicate k.toNat xs).flatten)) else none
  | _, _ => none
def modD : D → D → Option AV
  | .int i, .int j => if 0 < j then some (.v (.int (i % j))) else none
  | _, _ => none
def fdivD : D → D → Option AV
  | .int i, .int j => if 0 < j ∧ j.natAbs < 2 ^ 9000 then some (.v (.int (i / j))) else none
  | _, _ => none
def powD : D → D → Option AV
  | .int i, .int j => if 0 ≤ j ∧ j ≤ 1000 ∧ 0 ≤ i ∧ i < 2 ^ 64 then some (.v (.int (i ^ j.toNat))) else none
  | _, _ => none
def binD : Bin → D → D → Option AV
  | .add => addD
  | .sub => subtD
  | .mul => mulD
  | .mod => modD
  | .fdiv => fdivD
  | .pow => powD
/-- [..] * k -/
def lrepD : D → D → Option AV
  | .lst xs, .int k => if k < 2 ^ 20 ∧ -(2 ^ 20) < k ∧ xs.length * k.toNat ≤ lineN then some (.f (.l (List.replicate k.toNat xs).flatten)) else none
  | _, _ => none
def isIn (x : D) (ys : List D) : Option Bool := if x.plain && plainAll ys && decide (x.depth ≤ 32) && decide (depthAll ys ≤ 32) then some (ys.any fun y => y.eqv x) else none
def inD (x : D) : D → Option Bool
  | .tup ys => isIn x ys
  | .lst ys => isIn x ys
  | .dct kvs => if x.keyOk then some (dget kvs x).isSome else none
  | .str s => match x with
    | .str [c] => some (s.contains c)
    | _ => none
  | _ => none
def eqX (a b : D) : Option Bool := eqD a b
def leX : D → D → Option Bool
  | .int i, .int j => some (decide (i ≤ j))
  | _, _ => none
def gtX : D → D → Option Bool
  | .int i, .int j => some (decide (j < i))
  | _, _ => none
def geX (a b : D) : Option Bool := match a, b with
  | .int i, .int j => some (decide (j ≤ i))
  | .tup _, .tup _ => (ltD a b).map (!·)
  | _, _ => none
def isX (a b : D) : Option Bool := match b with
  | .non => some (match a with | .non => true | _ => false)
  | .bl c => match a with
    | .bl d => some (c == d)
    | _ => none
  | _ => none
def cmpD : Cmp → D → D → Option Bool
  | .eq => eqX
  | .ne => fun a b => (eqX a b).map (!·)
  | .lt => ltD
  | .le => leX
  | .gt => gtX
  | .ge => geX
  | .isin => inD
  | .notin => fun a b => (inD a b).map (!·)
  | .is => isX
  | .isnot => fun a b => (isX a b).map (!·)
def allB : List D → Option Bool
  | [] => some true
  | .bl b :: r => (allB r).map (b && ·)
  | _ => none
def intsD : List D → Option (List Int)
  | [] => some []
  | .int i :: r => (intsD r).map (i :: ·)
  | _ => none
def minL : List Int → Option Int
  | [] => none
  | [x] => some x
  | x :: r => (minL r).map (min x)
def maxL : List Int → Option Int
  | [] => none
  | [x] => some x
  | x :: r => (maxL r).map (max x)
def seqD : D → Option (List D)
  | .tup xs => some xs
  | .lst xs => some xs
  | _ => none
/-- what is walked -/
def itemsD : D → Option (List D)
  | .tup xs => some xs
  | .lst xs => some xs
  | .dct kvs => some (dkeys kvs)
  | .str s => some (s.map fun c => .str [c])
  | _ => none
def lenD : D → Option AV
  | .tup xs => some (.v (.int xs.length))
  | .lst xs => some (.v (.int xs.length))
  | .str x => if x.length ≤ lineN then some (.v (.int x.length)) else none
  | _ => none
def tupleD : D → Option AV
  | .tup xs => some (.v (.tup xs))
  | .lst xs => some (.v (.tup xs))
  | _ => none
def listD : D → Option AV
  | .tup xs => some (.f (.l xs))
  | .lst xs => some (.f (.l xs))
  | _ => none
def dictD : D → Option AV
  | .tup xs => (dfill xs []).map fun kvs => .f (.k kvs)
  | .lst xs => (dfill xs []).map fun kvs => .f (.k kvs)
  | _ => none
/-- an int or a text -/
def flatK : D → Bool
  | .int _ => true
  | .str _ => true
  | _ => false
def lensetD : D → Option AV
  | .lst xs => if xs.all flatK = true ∧ xs.length ≤ 4000 then some (.v (.int (dedup xs).length)) else none
  | _ => none
def insI (x : Int) : List Int → List Int
  | [] => [x]
  | y :: ys => if y < x then y :: insI x ys else x :: y :: ys
def isortI : List Int → List Int
  | [] => []
  | x :: xs => insI x (isortI xs)
def sortsetD (a : D) : Option AV := (seqD a).bind fun xs => (setOf xs).bind fun ys => (sortD ys).map fun zs => .f (.l zs)
def sortedD (a : D) : Option AV := (seqD a).bind fun xs => (intsD xs).map fun ns => .f (.l ((isortI ns).map .int))
def allD : D → Option AV
  | .lst xs => (allB xs).map fun b => .v (.bl b)
  | _ => none
def intD : D → Option AV
  | .int i => some (.v (.int i))
  | .bl b => some (.v (.int (if b then 1 else 0)))
  | _ => none
def absD : D → Option AV
  | .int i => some (.v (.int (if i < 0 then -i else i)))
  | _ => none
def sumD (a : D) : Option AV := (seqD a).bind fun xs => (intsD xs).map fun ns => .v (.int ns.sum)
def strD : D → Option AV
  | .int i => if i.natAbs < 2 ^ 64 then some (.v (.str (strInt i))) else none
  | _ => none
def minD (a : D) : Option AV := (seqD a).bind fun xs => (intsD xs).bind fun ns => (minL ns).map fun m => .v (.int m)
def maxD (a : D) : Option AV := (seqD a).bind fun xs => (intsD xs).bind fun ns => (maxL ns).map fun m => .v (.int m)
def valuesD : D → Option AV
  | .dct kvs => some (.f (.l (dvals kvs)))
  | _ => none
def sortitemsD : D → Option AV
  | .dct kvs => (sortD (kvs.map fun p => .tup [p.1, p.2])).map fun zs => .f (.l zs)
  | _ => none
def b1D : B1 → D → Option AV
  | .len => lenD
  | .tuple => tupleD
  | .list => listD
  | .dict => dictD
  | .lenset => lensetD
  | .sortset => sortsetD
  | .sorted => sortedD
  | .all => allD
  | .int => intD
  | .abs => absD
  | .sum => sumD
  | .str => strD
  | .min => minD
  | .max => maxD
  | .values => valuesD
  | .sortitems => sortitemsD
inductive Ty where | non | bool | int | str | tuple | list | dict deriving DecidableEq
def D.ty : D → Option Ty
  | .non => some .non
  | .bl _ => some .bool
  | .int _ => some .int
  | .str _ => some .str
  | .tup _ => some .tuple
  | .lst _ => some .list
  | .dct _ => some .dict
  | .fn _ => none
def Kind.is : Kind → Ty → Bool
  | .int, .int => true
  | .int, .bool => true
  | .bool, .bool => true
  | .tuple, .tuple => true
  | .list, .list => true
  | .str, .str => true
  | .tuplist, .tuple => true
  | .tuplist, .list => true
  | _, _ => false
def isiD (k : Kind) (a : D) : Option AV := a.ty.map fun t => .v (.bl (k.is t))
def subD (a i : D) : Option D := match a, i with
  | .tup xs, .int i => atI xs i
  | .lst xs, .int i => atI xs i
  | .str s, .int i => if s.length ≤ lineN then (atI s i).map fun c => .str [c] else none
  | .dct kvs, k => if k.keyOk then dget kvs k else none
  | _, _ => none
def sliceD (a : D) (lo hi : Option Int) : Option AV := match a with
  | .tup xs => some (.v (.tup (cut xs lo hi)))
  | .lst xs => some (.f (.l (cut xs lo hi)))
  | .str s => if s.length ≤ lineN then some (.v (.str (cut s lo hi))) else none
  | _ => none
def rangeL (n : Int) : List D := (List.range n.toNat).map fun k => .int (Int.ofNat k)
def rangeL2 (a b : Int) : List D := (List.range (b - a).toNat).map fun k => .int (a + Int.ofNat k)
def rngOk (n : Int) : Bool := decide (-16777216 ≤ n) && decide (n ≤ 16777216)
def findIx (x : D) : List D → Nat → Option Nat
  | [], _ => none
  | y :: ys, n => match eqD y x with
    | some true => some n
    | some false => findIx x ys (n + 1)
    | none => none

/-! ### targets -/
def setAll : List Nat → List D → Env → Option Env
  | [], [], ρ => some ρ
  | i :: is, x :: xs, ρ => if i < ρ.length then setAll is xs (ρ.set i (some (.d x))) else none
  | _, _, _ => none
def tgSet (tg : Tg) (x : D) (ρ : Env) : Option Env := match tg with
  | .one i => if i < ρ.length then some (ρ.set i (some (.d x))) else none
  | .many is => match x with
    | .tup xs => setAll is xs ρ
    | _ => none
/-- nothing there, or data -/
def datAt (ρ : Env) (i : Nat) : Bool := match slot ρ i with
  | none => true
  | some (.d _) => true
  | _ => false
def wipe (ρ : Env) : List Nat → Env
  | [] => ρ
  | i :: is => (wipe ρ is).set i none
/-- the slots in is as they were in ρ₀ -/
def back (ρ₀ ρ : Env) : List Nat → Env
  | [] => ρ
  | i :: is => (back ρ₀ ρ is).set i ((ρ₀[i]?).join)
/-- without what is owned -/
def hide (ρ : Env) : Env := ρ.map fun s => match s with
  | some (.d x) => some (.d x)
  | _ => none

def compGo (step : D → Env → Res (Option D × Env)) : List D → Env → Res (List D × Env)
  | [], ρ => .ok ([], ρ)
  | x :: xs, ρ => (step x ρ).bind fun (y, ρ1) => (compGo step xs ρ1).bind fun (ys, ρ2) => .ok (match y with | some y => y :: ys | none => ys, ρ2)
def compGo2 (step : D → Env → Res (List D × Env)) : List D → Env → Res (List D × Env)
  | [], ρ => .ok ([], ρ)
  | x :: xs, ρ => (step x ρ).bind fun (y, ρ1) => (compGo2 step xs ρ1).bind fun (ys, ρ2) => .ok (y ++ ys, ρ2)
def forGo (body : D → Env → Res (Fl × Env)) : List D → Env → Res (Fl × Env)
  | [], ρ => .ok (.nx, ρ)
  | x :: xs, ρ => (body x ρ).bind fun (f, ρ1) => match f with
    | .nx => forGo body xs ρ1
    | .rt r => .ok (.rt r, ρ1)
def whileGo (test : Env → Res (Bool × Env)) (body : Env → Res (Fl × Env)) : Nat → Env → Res (Fl × Env)
  | 0, _ => .stuck
  | n + 1, ρ => (test ρ).bind fun (b, ρ1) => if b then (body ρ1).bind fun (f, ρ2) => match f with
    | .nx => whileGo test body n ρ2
    | .rt r => .ok (.rt r, ρ2)
    else .ok (.nx, ρ1)

def takeR (ρ : Env) (a : AV) : Res (D × Env) := ofO (take ρ a)
def boolR (ρ : Env) (a : AV) : Res Bool := match a with
  | .v (.bl b) => .ok b
  | .r i => match slot ρ i with
    | some (.d (.bl b)) => .ok b
    | _ => .stuck
  | _ => .stuck

/-- by the callee's flags: lent, or data -/
def passBy : List Bool → List AV → Env → Option (List SV)
  | [], [], _ => some []
  | true :: bs, .r i :: as, ρ => match slot ρ i with
    | some (.w x) => (passBy bs as ρ).map (.w x :: ·)
    | _ => none
  | true :: bs, .f x :: as, ρ => (passBy bs as ρ).map (.w x :: ·)
  | false :: bs, .v d :: as, ρ => (passBy bs as ρ).map (.d d :: ·)
  | _, _, _ => none
/-- what was lent comes back -/
def backTo : List Bool → List AV → List OV → Env → Option Env
  | [], [], [], ρ => some ρ
  | true :: bs, .r i :: as, x :: xs, ρ => backTo bs as xs (ρ.set i (some (.w x)))
  | true :: bs, .f _ :: as, _ :: xs, ρ => backTo bs as xs ρ
  | false :: bs, _ :: as, xs, ρ => backTo bs as xs ρ
  | _, _, _, _ => none
def distinctR : List Bool → List AV → List Nat → Bool
  | true :: bs, .r i :: as, seen => !seen.contains i && distinctR bs as (i :: seen)
  | _ :: bs, _ :: as, seen => distinctR bs as seen
  | _, _, _ => true

/-! ### objects changed -/
def gget {α : Type} (kvs : List (D × α)) (k : D) : Option α := match kvs with
  | [] => none
  | (k', v) :: r => if k'.same k then some v else gget r k
def gput {α : Type} (kvs : List (D × α)) (k : D) (v : α) : List (D × α) := match kvs with
  | [] => [(k, v)]
  | (k', v') :: r => if k'.same k then (k', v) :: r else (k', v') :: gput r k v
def modO (ρ : Env) (a : AV) (g : OV → Option (OV × D)) : Option (D × Env) := match a with
  | .r i => match slot ρ i with
    | some (.w x) => (g x).map fun (y, d) => (d, ρ.set i (some (.w y)))
    | some (.ali j k) => match slot ρ j with
      | some (.w (.kk kvs)) => match gget kvs k with
        | some m => match g (.k m) with
          | some (.k m', d) => some (d, ρ.set j (some (.w (.kk (gput kvs k m')))))
          | _ => none
        | none => none
      | _ => none
    | _ => none
  | .p i x => match slot ρ i with
    | some (.w (.o c fs)) => match getF fs x with
      | some (.l xs) => match g (.l xs) with
        | some (.l ys, d) => some (d, ρ.set i (some (.w (.o c (putF fs x (.l ys))))))
        | _ => none
      | some (.k xs) => match g (.k xs) with
        | some (.k ys, d) => some (d, ρ.set i (some (.w (.o c (putF fs x (.k ys))))))
        | _ => none
      | _ => none
    | _ => none
  | _ => none
def gAppend (d : D) : OV → Option (OV × D)
  | .l xs => if xs.length < lineN then some (.l (xs ++ [d]), .non) else none
  | _ => none
def gExtend (ys : List D) : OV → Option (OV × D)
  | .l xs => if xs.length + ys.length ≤ lineN then some (.l (xs ++ ys), .non) else none
  | _ => none
def gPop : OV → Option (OV × D)
  | .l xs => (xs[xs.length - 1]?).map fun d => (.l xs.dropLast, d)
  | _ => none
def gPopi (i : D) : OV → Option (OV × D)
  | .l xs => match i with
    | .int i => (ixN xs.length i).bind fun j => (xs[j]?).map fun d => (.l (xs.eraseIdx j), d)
    | _ => none
  | _ => none
def gSet (i d : D) : OV → Option (OV × D)
  | .l xs => match i with
    | .int i => (ixN xs.length i).map fun j => (.l (xs.set j d), .non)
    | _ => none
  | .k kvs => if i.keyOk && decide (kvs.length < lineN) then some (.k (dput kvs i d), .non) else none
  | _ => none
def freeze (ρ : Env) : List Nat → Option Env
  | [] => some ρ
  | i :: is => match slot ρ i with
    | some (.w x) => x.data.bind fun d => freeze (ρ.set i (some (.d d))) is
    | some (.d _) => freeze ρ is
    | _ => none

abbrev Ev (α : Type) := Env → Res (α × Env)
def ev1 (ra : Ev AV) (k : D → Option AV) : Ev AV := fun ρ => (ra ρ).bind fun (x, ρ1) => (ofO (look ρ1 x)).bind fun d => (ofO (k d)).bind fun z => .ok (z, ρ1)
def ev2 (ra rb : Ev AV) (k : D → D → Option AV) : Ev AV := fun ρ => (ra ρ).bind fun (x, ρ1) => (rb ρ1).bind fun (y, ρ2) =>
  (ofO (look ρ2 x)).bind fun dx => (ofO (look ρ2 y)).bind fun dy => (ofO (k dx dy)).bind fun z => .ok (z, ρ2)
/-- as a test -/
def evT (ra : Ev AV) : Ev Bool := fun ρ => (ra ρ).bind fun (x, ρ1) => (boolR ρ1 x).bind fun b => .ok (b, ρ1)
def evBl (rt : Ev Bool) : Ev AV := fun ρ => (rt ρ).bind fun (b, ρ1) => .ok (.v (.bl b), ρ1)
def evIf {α : Type} (rt : Ev Bool) (ra rb : Ev α) : Ev α := fun ρ => (rt ρ).bind fun (b, ρ1) => if b then ra ρ1 else rb ρ1
def evK {α : Type} (a : α) : Ev α := fun ρ => .ok (a, ρ)
/-- taken -/
def evD (ra : Ev AV) : Ev D := fun ρ => (ra ρ).bind fun (x, ρ1) => takeR ρ1 x
def evI (ra : Ev AV) : Ev Int := fun ρ => (ra ρ).bind fun (x, ρ1) => match x with
  | .v (.int i) => .ok (i, ρ1)
  | _ => .stuck
def chainD (op op' : Cmp) (ra rb rc : Ev AV) : Ev AV := fun ρ => (ra ρ).bind fun (x, ρ1) => (rb ρ1).bind fun (y, ρ2) =>
  (ofO (look ρ2 x)).bind fun dx => (ofO (look ρ2 y)).bind fun dy => (ofO (cmpD op dx dy)).bind fun z => if z then
    (rc ρ2).bind fun (y', ρ3) => (ofO (look ρ3 y)).bind fun dy => (ofO (look ρ3 y')).bind fun dz => (ofO (cmpD op' dy dz)).bind fun z' => .ok (.v (.bl z'), ρ3)
    else .ok (.v (.bl false), ρ2)
def min2D : D → D → Option AV
  | .int i, .int j => some (.v (.int (if j < i then j else i)))
  | _, _ => none
def negD : D → Option AV
  | .int i => some (.v (.int (-i)))
  | _ => none
def lrangeD : D → Option AV
  | .int n => if rngOk n then some (.f (.l (rangeL n))) else none
  | _ => none
def trangeD : D → Option AV
  | .int n => if rngOk n then some (.v (.tup (rangeL n))) else none
  | _ => none
def get1D : D → D → Option AV
  | .dct kvs, k => if k.keyOk then some (.v ((dget kvs k).getD .non)) else none
  | _, _ => none
def indexD : D → D → Option AV
  | .lst xs, x => (findIx x xs 0).map fun n => .v (.int n)
  | .tup xs, x => (findIx x xs 0).map fun n => .v (.int n)
  | _, _ => none
def splitD : D → D → Option AV
  | .str t, .str sep => if sep.isEmpty then none else some (.f (.l ((PL.split t sep).map .str)))
  | _, _ => none
def textsD : List D → Option (List Txt)
  | [] => some []
  | .str t :: r => (textsD r).map (t :: ·)
  | _ => none
def joinD : D → D → Option AV
  | .str sep, .lst xs => (textsD xs).bind fun ts => if (joinT sep ts).length ≤ lineN then some (.v (.str (joinT sep ts))) else none
  | _, _ => none
def countD : D → D → Option AV
  | .str t, .str sub => if sub.isEmpty then none else some (.v (.int (countT t sub)))
  | _, _ => none
/-- one item of a comprehension -/
def compStep (own : List Nat) (tg : Tg) (rc : Ev Bool) (re : Ev D) : D → Env → Res (Option D × Env) := fun x ρ =>
  (ofO (tgSet tg x (wipe ρ own))).bind fun ρ2 => (rc ρ2).bind fun (k, ρ3) => if k then (re ρ3).bind fun (d, ρ4) => .ok (some d, ρ4) else .ok (none, ρ3)
def evComp (own : List Nat) (tg : Tg) (rs : Ev (List D)) (rc : Ev Bool) (re : Ev D) : Ev AV := fun ρ => (rs ρ).bind fun (xs, ρ1) =>
  if own.all (datAt ρ1) = true ∧ xs.length ≤ lineN then (compGo (compStep own tg rc re) xs ρ1).noexc.bind fun (ds, ρ2) => .ok (.f (.l ds), back ρ1 ρ2 own) else .stuck
/-- the slots of a target -/
def tgIx : Tg → List Nat
  | .one i => [i]
  | .many is => is
def evComp2 (own : List Nat) (tg : Tg) (rs : Ev (List D)) (tg1 : Tg) (rs1 : Ev (List D)) (rc : Ev Bool) (re : Ev D) : Ev AV := fun ρ => (rs ρ).bind fun (xs, ρ1) =>
  if own.all (datAt ρ1) = true then (compGo2 (fun x ρ => (ofO (tgSet tg x (wipe ρ own))).bind fun ρ2 => (rs1 ρ2).bind fun (ys, ρ3) => compGo (compStep (tgIx tg1) tg1 rc re) ys ρ3) xs ρ1).noexc.bind fun (ds, ρ2) =>
    if ds.length ≤ lineN then .ok (.f (.l ds), back ρ1 ρ2 own) else .stuck
  else .stuck
def isL (ρ : Env) : AV → Bool
  | .r i => match slot ρ i with
    | some (.w (.l _)) => true
    | _ => false
  | _ => false
def evMod (ra : Ev AV) (rx : Ev D) (g : D → OV → Option (OV × D)) : Ev AV := fun ρ => (ra ρ).bind fun (r, ρ1) => if isL ρ1 r = true then (rx ρ1).bind fun (d, ρ2) => (ofO (modO ρ2 r (g d))).bind fun (z, ρ3) => .ok (.v z, ρ3) else .stuck
/-- a view of what is given, not taken -/
def evV (ra : Ev AV) : Ev D := fun ρ => (ra ρ).bind fun (x, ρ1) => (ofO (look ρ1 x)).bind fun d => .ok (d, ρ1)
/-- a new list -/
def evNew (ra : Ev AV) : Ev D := fun ρ => (ra ρ).bind fun (x, ρ1) => match x with
  | .f (.l ys) => .ok (.lst ys, ρ1)
  | _ => .stuck
def gExtendD : D → OV → Option (OV × D)
  | .lst ys, x => gExtend ys x
  | _, _ => none
def evGet2 (ra rk : Ev AV) (rz : Ev D) : Ev AV := fun ρ => (ra ρ).bind fun (x, ρ1) => (rk ρ1).bind fun (y, ρ2) => (rz ρ2).bind fun (dz, ρ3) =>
  (ofO (look ρ3 x)).bind fun dx => (ofO (look ρ3 y)).bind fun dk => match dx with
  | .dct kvs => if dk.keyOk then .ok (.v ((dget kvs dk).getD dz), ρ3) else .stuck
  | _ => .stuck
def callGo (c : Ctx) (f : String) (bs : List Bool) (as : List AV) (ρ : Env) : Res (AV × Env) :=
  if distinctR bs as [] then (ofO (passBy bs as ρ)).bind fun ss => (c.call f ss).bind fun (r, os) => (ofO (backTo bs as os ρ)).bind fun ρ2 => match r with
      | .v d => .ok (.v d, ρ2)
      | .f x => .ok (.f x, ρ2)
    else .stuck
def evCall (c : Ctx) (f : String) (bs : List Bool) (ras : Ev (List AV)) : Ev AV := fun ρ => (ras ρ).bind fun (as, ρ1) => callGo c f bs as ρ1
def toldR (t : TDef) (r : Res (D × Env)) : Res D := match r with
  | .ok (d, _) => .ok (if t.ret then d else t.fin)
  | .exc cl ps => if cl ∈ t.cs then (handle t.hs cl ps).noexc else .stuck
  | .stuck => .stuck
def Es.len : Es → Nat
  | .nil => 0
  | .cons _ r => r.len + 1
  | .star _ r => r.len + 1
/-- a, b, .. = x, y, ..: each taken, or owned -/
def parGo : List (Nat × Bool) → List AV → Env → Option Env
  | [], [], ρ => some ρ
  | (i, o) :: is, a :: as, ρ => match parGo is as ρ with
    | some ρ1 => if i < ρ1.length then (if o then (match a with
        | .f y => some (ρ1.set i (some (.w y)))
        | _ => none) else (match a with
        | .v d => some (ρ1.set i (some (.d d)))
        | _ => none)) else none
    | none => none
  | _, _, _ => none

mutual
def evalE (c : Ctx) : E → Ev AV
  | .var i => fun ρ => match slot ρ i with
    | some (.d x) => .ok (.v x, ρ)
    | some (.w _) => .ok (.r i, ρ)
    | some (.ali _ _) => .ok (.r i, ρ)
    | _ => .stuck
  | .con d => evK (.v d)
  | .lrep es k => ev2 (fun ρ => (evalEs c es ρ).bind fun (ds, ρ1) => if ds.length ≤ lineN then .ok (.f (.l ds), ρ1) else .stuck) (evalE c k) lrepD
  | .glo _ i => evK (.v (.int i))
  | .fnv x => evK (.v (.fn x))
  | .bin op a b => ev2 (evalE c a) (evalE c b) (binD op)
  | .neg a => ev1 (evalE c a) negD
  | .not a => evBl (evIf (evT (evalE c a)) (evK false) (evK true))
  | .and a b => evIf (evT (evalE c a)) (evalE c b) (evK (.v (.bl false)))
  | .or a b => evIf (evT (evalE c a)) (evK (.v (.bl true))) (evalE c b)
  | .cmp op a b => ev2 (evalE c a) (evalE c b) fun x y => (cmpD op x y).map fun z => .v (.bl z)
  | .chain op op' a b b' => chainD op op' (evalE c a) (evalE c b) (evalE c b')
  | .ite t a b => evIf (evT (evalE c t)) (evalE c a) (evalE c b)
  | .tup es => fun ρ => (evalEs c es ρ).bind fun (ds, ρ1) => if ds.length ≤ lineN then .ok (.v (.tup ds), ρ1) else .stuck
  | .lst es => fun ρ => (evalEs c es ρ).bind fun (ds, ρ1) => if ds.length ≤ lineN then .ok (.f (.l ds), ρ1) else .stuck
  | .dic0 => evK (.f (.k []))
  | .dic1 k v => fun ρ => (evD (evalE c k) ρ).bind fun (dk, ρ2) => (evD (evalE c v) ρ2).bind fun (dv, ρ4) => if dk.keyOk then .ok (.f (.k [(dk, dv)]), ρ4) else .stuck
  | .sub a i => ev2 (evalE c a) (evalE c i) fun x y => (subD x y).map .v
  | .slice a lo hi => fun ρ => (evalE c a ρ).bind fun (x, ρ1) => (evalO c lo ρ1).bind fun (l, ρ2) => (evalO c hi ρ2).bind fun (h, ρ3) =>
    (ofO (look ρ3 x)).bind fun dx => (ofO (sliceD dx l h)).bind fun z => .ok (z, ρ3)
  | .comp own tg src cnd elt => evComp own tg (evalSrc c src) (evalB c cnd) (evD (evalE c elt))
  | .comp2 own tg src tg1 src1 cnd elt => evComp2 own tg (evalSrc c src) tg1 (evalSrc c src1) (evalB c cnd) (evD (evalE c elt))
  | .call f args => match c.io f with
    | some bs => evCall c f bs (evalAs c bs args)
    | none => fun _ => .stuck
  | .callv i args => fun ρ => match slot ρ i with
    | some (.d (.fn f)) => match c.io f with
      | some bs => if bs = List.replicate args.len false then evCall c f (List.replicate args.len false) (evalAs c (List.replicate args.len false) args) ρ else .stuck
      | none => .stuck
    | _ => .stuck
  | .lamc i n body => fun ρ => match slot ρ i with
    | some (.lam m) => if m = n then (evalE c body ρ).bind fun (x, ρ1) => match x with
        | .v d => .ok (.v d, ρ1)
        | _ => .stuck
      else .stuck
    | _ => .stuck
  | .told f body => fun ρ => match c.told f with
    | some t => (toldR t (evD (evalE c body) (hide ρ))).bind fun d => .ok (.v d, ρ)
    | none => .stuck
  | .b1 op a => ev1 (evalE c a) (b1D op)
  | .min2 a b => ev2 (evalE c a) (evalE c b) min2D
  | .isi k a => ev1 (evalE c a) (isiD k)
  | .lrange a => ev1 (evalE c a) lrangeD
  | .lenset a => ev1 (evalE c a) lensetD
  | .trange a => ev1 (evalE c a) trangeD
  | .fld a x => fun ρ => (evalE c a ρ).bind fun (r, ρ1) => match r with
    | .r i => match slot ρ1 i with
      | some (.w (.o _ fs)) => match getF fs x with
        | some (.d d) => .ok (.v d, ρ1)
        | some _ => .ok (.p i x, ρ1)
        | none => .stuck
      | _ => .stuck
    | _ => .stuck
  | .new cl args => fun ρ => match c.io (cl ++ ".__init__") with
    | some (true :: bs) => (evalAs c bs args ρ).bind fun (as, ρ1) => (ofO (passBy bs as ρ1)).bind fun ss => (c.call (cl ++ ".__init__") (.w (.o cl []) :: ss)).bind fun (r, os) => match r, os with
      | .v .non, x :: os => (ofO (backTo bs as os ρ1)).bind fun ρ3 => .ok (.f x, ρ3)
      | _, _ => .stuck
    | _ => .stuck
  | .meth m recv args => fun ρ => (evalE c recv ρ).bind fun (x, ρ1) => match (match x with
      | .r i => match slot ρ1 i with
        | some (.w (.o cl _)) => some cl
        | _ => none
      | .f (.o cl _) => some cl
      | _ => none) with
    | some cl => match c.io (cl ++ "." ++ m) with
      | some (true :: bs) => (evalAs c bs args ρ1).bind fun (as, ρ2) => callGo c (cl ++ "." ++ m) (true :: bs) (x :: as) ρ2
      | _ => .stuck
    | none => .stuck
  | .append a x => evMod (evalE c a) (evD (evalE c x)) gAppend
  | .extend a x => evMod (evalE c a) (evNew (evalE c x)) gExtendD
  | .pop a => evMod (evalE c a) (evK .non) fun _ => gPop
  | .popi a i => evMod (evalE c a) (evD (evalE c i)) gPopi
  | .get1 a k => ev2 (evalE c a) (evalE c k) get1D
  | .get2 a k z => evGet2 (evalE c a) (evalE c k) (evD (evalE c z))
  | .index a x => ev2 (evalE c a) (evalE c x) indexD
  | .split a s => ev2 (evalE c a) (evalE c s) splitD
  | .join a x => ev2 (evalE c a) (evalE c x) joinD
  | .count a x => ev2 (evalE c a) (evalE c x) countD
  | .sortkey _ _ => fun _ => .stuck
def evalEs (c : Ctx) : Es → Ev (List D)
  | .nil => evK []
  | .cons e es => fun ρ => (evD (evalE c e) ρ).bind fun (d, ρ2) => (evalEs c es ρ2).bind fun (ds, ρ3) => .ok (d :: ds, ρ3)
  | .star e es => fun ρ => (evV (evalE c e) ρ).bind fun (d, ρ1) => (ofO (seqD d)).bind fun xs => (evalEs c es ρ1).bind fun (ds, ρ2) => .ok (xs ++ ds, ρ2)
/-- arguments: lent where the flag says so, else taken -/
def evalAs (c : Ctx) : List Bool → Es → Ev (List AV)
  | [], .nil => evK []
  | true :: bs, .cons e es => fun ρ => (evalE c e ρ).bind fun (x, ρ1) => (evalAs c bs es ρ1).bind fun (ds, ρ2) => .ok (x :: ds, ρ2)
  | false :: bs, .cons e es => fun ρ => (evD (evalE c e) ρ).bind fun (d, ρ2) => (evalAs c bs es ρ2).bind fun (ds, ρ3) => .ok (.v d :: ds, ρ3)
  | _, _ => fun _ => .stuck
/-- an optional int -/
def evalO (c : Ctx) : Oe → Ev (Option Int)
  | .none => evK Option.none
  | .some e => fun ρ => (evI (evalE c e) ρ).bind fun (i, ρ1) => .ok (Option.some i, ρ1)
/-- an optional test -/
def evalB (c : Ctx) : Oe → Ev Bool
  | .none => evK true
  | .some e => evT (evalE c e)
def evalSrc (c : Ctx) : Src → Ev (List D)
  | .e a => fun ρ => (evD (evalE c a) ρ).bind fun (d, ρ2) => (ofO (seqD d)).bind fun xs => .ok (xs, ρ2)
  | .rng1 a => fun ρ => (evI (evalE c a) ρ).bind fun (n, ρ1) => if rngOk n then .ok (rangeL n, ρ1) else .stuck
  | .rng2 a b => fun ρ => (evI (evalE c a) ρ).bind fun (n, ρ1) => (evI (evalE c b) ρ1).bind fun (m, ρ2) => if rngOk n && rngOk m then .ok (rangeL2 n m, ρ2) else .stuck
end

mutual
def execS (c : Ctx) : S → Ev Fl
  | .asg i e => fun ρ => (evD (evalE c e) ρ).bind fun (d, ρ2) => if i < ρ2.length then .ok (.nx, ρ2.set i (some (.d d))) else .stuck
  | .own i e => fun ρ => (evalE c e ρ).bind fun (x, ρ1) => match x with
    | .f y => if i < ρ1.length then .ok (.nx, ρ1.set i (some (.w y))) else .stuck
    | _ => .stuck
  | .asgT is e => fun ρ => (evD (evalE c e) ρ).bind fun (d, ρ2) => (ofO (tgSet (.many is) d ρ2)).bind fun ρ3 => .ok (.nx, ρ3)
  | .par is es => fun ρ => (evalAs c (is.map (·.2)) es ρ).bind fun (as, ρ1) => (ofO (parGo is as ρ1)).bind fun ρ2 => .ok (.nx, ρ2)
  | .setI a i x => fun ρ => (evD (evalE c x) ρ).bind fun (d, ρ2) => (evalE c a ρ2).bind fun (r, ρ3) => (evD (evalE c i) ρ3).bind fun (k, ρ5) =>
    if isL ρ5 r = true then (ofO (modO ρ5 r (gSet k d))).bind fun (_, ρ6) => .ok (.nx, ρ6) else .stuck
  | .setT a i b j x y => fun ρ => (evalEs c (.cons x (.cons y .nil)) ρ).bind fun (ds, ρ1) => match ds with
    | [d, d'] => (evalE c a ρ1).bind fun (r, ρ3) => (evD (evalE c i) ρ3).bind fun (k, ρ5) => if isL ρ5 r = true then (ofO (modO ρ5 r (gSet k d))).bind fun (_, ρ6) =>
      (evalE c b ρ6).bind fun (r, ρ7) => (evD (evalE c j) ρ7).bind fun (k, ρ8) => if isL ρ8 r = true then (ofO (modO ρ8 r (gSet k d'))).bind fun (_, ρ9) => .ok (.nx, ρ9) else .stuck else .stuck
    | _ => .stuck
  | .setF i x e => fun ρ => (evalE c e ρ).bind fun (y, ρ1) => match (match y with
      | .f (.l xs) => some (FV.l xs, ρ1)
      | .f (.k xs) => some (FV.k xs, ρ1)
      | y => (take ρ1 y).map fun (d, ρ2) => (FV.d d, ρ2)) with
    | some (v, ρ2) => match slot ρ2 i with
      | some (.w (.o cl fs)) => .ok (.nx, ρ2.set i (some (.w (.o cl (putF fs x v)))))
      | _ => .stuck
    | none => .stuck
  | .setdefA j i k => fun ρ => (evD (evalE c k) ρ).bind fun (dk, ρ2) => if dk.keyOk then match slot ρ2 i with
      | some (.w (.k [])) => .ok (.nx, (ρ2.set i (some (.w (.kk [(dk, [])])))).set j (some (.ali i dk)))
      | some (.w (.kk kvs)) => match gget kvs dk with
        | some _ => .ok (.nx, ρ2.set j (some (.ali i dk)))
        | none => .ok (.nx, (ρ2.set i (some (.w (.kk (kvs ++ [(dk, [])]))))).set j (some (.ali i dk)))
      | _ => .stuck
    else .stuck
  | .setdefL i k n j x => fun ρ => (evD (evalE c x) ρ).bind fun (d, ρ) => (evD (evalE c k) ρ).bind fun (dk, ρ) => (evD (evalE c n) ρ).bind fun (dn, ρ) =>
    (evD (evalE c j) ρ).bind fun (dj, ρ) => if dk.keyOk then match dn, dj with
      | .lst init, .int jj => match slot ρ i with
        | some (.w (.k [])) => (ofO (ixN init.length jj)).bind fun m => .ok (.nx, ρ.set i (some (.w (.kl [(dk, init.set m d)]))))
        | some (.w (.kl kvs)) => let cur := (gget kvs dk).getD init
          (ofO (ixN cur.length jj)).bind fun m => .ok (.nx, ρ.set i (some (.w (.kl (gput kvs dk (cur.set m d))))))
        | _ => .stuck
      | _, _ => .stuck
    else .stuck
  | .expr e => fun ρ => (evalE c e ρ).bind fun (_, ρ1) => .ok (.nx, ρ1)
  | .ite t a b => evIf (evT (evalE c t)) (execSs c a) (execSs c b)
  | .for tg src b => fun ρ => (evalSrc c src ρ).bind fun (xs, ρ1) => forGo (fun x ρ => (ofO (tgSet tg x ρ)).bind fun ρ2 => execSs c b ρ2) xs ρ1
  | .whl t b => whileGo (evT (evalE c t)) (execSs c b) c.wf
  | .ret e => fun ρ => (evalE c e ρ).bind fun (x, ρ1) => match x with
    | .v d => .ok (.rt (.v d), ρ1)
    | .f y => .ok (.rt (.f y), ρ1)
    | .r i => match slot ρ1 i with
      | some (.w y) => .ok (.rt (.f y), ρ1.set i none)
      | _ => .stuck
    | _ => .stuck
  | .retN => evK (.rt (.v .non))
  | .raise cl .nil => fun _ => .exc cl []
  | .raise cl (.cons e es) => fun ρ => (evalEs c (.cons e es) ρ).bind fun (ds, _) => if excOk cl ds = true then .exc cl ds else .stuck
  | .raise _ (.star _ _) => fun _ => .stuck
  | .lamdef i n => fun ρ => if i < ρ.length then .ok (.nx, ρ.set i (some (.lam n))) else .stuck
  | .fz is s => fun ρ => (ofO (freeze ρ is)).bind fun ρ1 => execS c s ρ1
  | .never => fun _ => .stuck
def execSs (c : Ctx) : Ss → Ev Fl
  | .nil => evK .nx
  | .cons s r => fun ρ => (execS c s ρ).bind fun (f, ρ1) => match f with
    | .nx => execSs c r ρ1
    | .rt x => .ok (.rt x, ρ1)
end

/-- the defs -/
structure Prog where
  defs : List (String × Def)
  tolds : List (String × TDef)
def Prog.get (p : Prog) (f : String) : Option Def := p.defs.lookup f
def outs : List Bool → Env → Option (List OV)
  | [], _ => some []
  | b :: bs, ρ => match ρ with
    | s :: r => if b then (match s with
        | some (.w x) => (outs bs r).map (x :: ·)
        | _ => none) else outs bs r
    | [] => none
/-- the arguments are lent or given as the flags say -/
def okArgs : List Bool → List SV → Bool
  | [], [] => true
  | true :: bs, .w _ :: ss => okArgs bs ss
  | false :: bs, .d _ :: ss => okArgs bs ss
  | _, _ => false
/-- a body run -/
def bodyR (d : Def) (body : Ev Fl) (args : List SV) : Res (RV × List OV) := if okArgs d.io args = true then
    (body (args.map some ++ List.replicate (d.ns - args.length) none)).bind fun (fl, ρ) =>
      (ofO (outs d.io ρ)).bind fun os => match fl with
        | .nx => .ok (.v .non, os)
        | .rt r => .ok (r, os)
  else .stuck
/-- a def run: its fuel is the depth of calls -/
def callF (p : Prog) (wf : Nat) : Nat → String → List SV → Res (RV × List OV)
  | 0, _, _ => .stuck
  | n + 1, f, args => match p.get f with
    | none => .stuck
    | some d => bodyR d (execSs ⟨fun g => (p.get g).map (·.io), callF p wf n, fun g => p.tolds.lookup g, wf⟩ d.body) args

end PL
end

section
set_option Elab.async false
set_option linter.all false
set_option maxRecDepth 100000
set_option maxHeartbeats 4000000
/-! the soundness of P-lang: relations -/
namespace PLS
open PySem PySem.Spec PyProof.Rows L2

/-! ### keys -/
mutual
def nk : PL.D → NestedKey
  | .int i => .num i
  | .str x => .text ⟨x.toArray⟩
  | .tup xs => .tup (nkAll xs)
  | _ => .none
def nkAll : List PL.D → List NestedKey
  | [] => []
  | x :: xs => nk x :: nkAll xs
end

/-- a tuple whose object is known (a plain one) -/
def PlT (H : Hp) (a : Addr) (vs : List V) : Prop := ∃ o : Obj, H a = some (.frz o (.tup vs)) ∧ o.dict = none
theorem PlT.sq {K : PySem.W.Frag} {H : Hp} {a : Addr} {vs : List V} (h : PlT H a vs) : SqT K H a vs := let ⟨o, e, _⟩ := h; .inl (.inr ⟨o, e⟩)
section
variable (P : Program) (w : World) (K : PySem.W.Frag)
/-- a dict with the keys (at their addresses) and values as said -/
def DicO (d : Addr) (l : List (NestedKey × Addr × V)) : HO := .ext fun h =>
  ∃ xs : List (NestedKey × Addr × Value), Paired (fun (p : NestedKey × Addr × V) (q : NestedKey × Addr × Value) => p.1 = q.1 ∧ p.2.1 = q.2.1 ∧ RelV p.2.2 q.2.2) l xs ∧
    ∃ o es ep, h.get? d = some o ∧ o.ExactDict ∧ o.data = .dict es ep ∧ es.toList = xs.map (entryOfKey (nestedKind P w)) ∧ (xs.map (·.1)).Nodup

/-! ### data and values -/
mutual
/-- v is d for good: what it leans on is a tuple, or stands in Z (never changed any more) -/
def Rep (H : Hp) (Z : Addr → Prop) : PL.D → V → Prop
  | .non, v => v = .non
  | .bl b, v => v = .bl b
  | .int i, v => v = .int i
  | .str x, v => v = .str ⟨x.toArray⟩
  | .tup ds, v => ∃ (a : Addr) (vs : List V), v = .ref a ∧ PlT H a vs ∧ vs.length ≤ sizeLine ∧ RepL H Z ds vs
  | .lst ds, v => ∃ (a : Addr) (vs : List V), v = .ref a ∧ (Z a ∨ ∀ Hx : Hp, SqL K Hx a vs) ∧ SqL K H a vs ∧ vs.length ≤ sizeLine ∧ RepL H Z ds vs
  | .dct kvs, v => ∃ (a : Addr) (l : List (NestedKey × Addr × V)), v = .ref a ∧ Z a ∧ H a = some (DicO P w a l) ∧ (a == sysModules) = false ∧ l.length ≤ sizeLine ∧ RepK H Z kvs l
  | .fn x, v => v = .ref (He.ga K (Str.ofString x))
def RepL (H : Hp) (Z : Addr → Prop) : List PL.D → List V → Prop
  | [], vs => vs = []
  | d :: ds, vs => ∃ v r, vs = v :: r ∧ Rep H Z d v ∧ RepL H Z ds r
def RepK (H : Hp) (Z : Addr → Prop) : List (PL.D × PL.D) → List (NestedKey × Addr × V) → Prop
  | [], l => l = []
  | (k, d) :: r, l => ∃ (a : Addr) (v : V) (l' : List (NestedKey × Addr × V)), l = (nk k, a, v) :: l' ∧ k.keyOk = true ∧ Rep H Z k (.ref a) ∧ Rep H Z d v ∧ RepK H Z r l'
end
/-- v is d as it stands -/
def View (H : Hp) (Z : Addr → Prop) : PL.D → V → Prop
  | .lst ds, v => ∃ (a : Addr) (vs : List V), v = .ref a ∧ SqL K H a vs ∧ vs.length ≤ sizeLine ∧ RepL P w K H Z ds vs
  | .dct kvs, v => ∃ (a : Addr) (l : List (NestedKey × Addr × V)), v = .ref a ∧ H a = some (DicO P w a l) ∧ (a == sysModules) = false ∧ l.length ≤ sizeLine ∧ RepK P w K H Z kvs l
  | d, v => Rep P w K H Z d v
/-- what is owned, at a -/
def RepO (H : Hp) (Z : Addr → Prop) : PL.OV → Addr → Prop
  | .l ds, a => ∃ vs : List V, H a = some (.lst vs) ∧ vs.length ≤ sizeLine ∧ RepL P w K H Z ds vs
  | .k kvs, a => ∃ l : List (NestedKey × Addr × V), H a = some (DicO P w a l) ∧ (a == sysModules) = false ∧ l.length ≤ sizeLine ∧ RepK P w K H Z kvs l
  | _, _ => False
end

/-- the heap goes on: what leans on Z and tuples stays -/
structure Ext (H : Hp) (Z : Addr → Prop) (H' : Hp) (Z' : Addr → Prop) : Prop where
  zz : ∀ a, Z a → Z' a
  za : ∀ a o, H a = some o → Z a → (∀ ps, o ≠ .tbl ps) → H' a = some o
  tup : ∀ a xs, H a = some (.tup xs) → H' a = some (.tup xs)
  frz : ∀ a o u, H a = some (.frz o u) → H' a = some (.frz o u)
theorem Ext.refl (H : Hp) (Z : Addr → Prop) : Ext H Z H Z := ⟨fun _ h => h, fun _ _ h _ _ => h, fun _ _ h => h, fun _ _ _ h => h⟩
theorem Ext.trans {H H1 H2 : Hp} {Z Z1 Z2 : Addr → Prop} (a : Ext H Z H1 Z1) (b : Ext H1 Z1 H2 Z2) : Ext H Z H2 Z2 :=
  ⟨fun x h => b.zz x (a.zz x h), fun x o h z n => b.za x o (a.za x o h z n) (a.zz x z) n, fun x xs h => b.tup x xs (a.tup x xs h), fun x o u h => b.frz x o u (a.frz x o u h)⟩

section
variable {P : Program} {w : World} {K : PySem.W.Frag} {H H' : Hp} {Z Z' : Addr → Prop}
theorem PlT.ext {a : Addr} {vs : List V} (e : Ext H Z H' Z') (h : PlT H a vs) : PlT H' a vs := let ⟨o, h, d⟩ := h; ⟨o, e.frz _ _ _ h, d⟩
theorem SqL.ext {a : Addr} {vs : List V} (e : Ext H Z H' Z') (z : Z a ∨ ∀ Hx : Hp, SqL K Hx a vs) (h : SqL K H a vs) : SqL K H' a vs := by
  rcases z with z | z
  rotate_left
  · exact z H'
  rcases h with (h | ⟨o, h⟩) | h
  · exact .inl (.inl (e.za _ _ h z (fun _ q => by cases q)))
  · exact .inl (.inr ⟨o, e.frz _ _ _ h⟩)
  · exact .inr h
theorem DicO_ne (d : Addr) (l : List (NestedKey × Addr × V)) : (∀ ps, DicO P w d l ≠ .tbl ps) ∧ (∀ xs, DicO P w d l ≠ .tup xs) ∧ (∀ xs, DicO P w d l ≠ .lst xs) ∧ (∀ o u, DicO P w d l ≠ .frz o u) := by
  unfold DicO
  exact ⟨fun _ q => (by cases q), fun _ q => (by cases q), fun _ q => (by cases q), fun _ _ q => (by cases q)⟩
mutual
theorem Rep.ext (e : Ext H Z H' Z') : ∀ (d : PL.D) (v : V), Rep P w K H Z d v → Rep P w K H' Z' d v
  | .non, v, h => by simpa only [Rep] using h
  | .bl _, v, h => by simpa only [Rep] using h
  | .int _, v, h => by simpa only [Rep] using h
  | .str _, v, h => by simpa only [Rep] using h
  | .fn _, v, h => by simpa only [Rep] using h
  | .tup ds, v, h => by
    simp only [Rep] at h ⊢
    obtain ⟨a, vs, e1, h1, h2, h3⟩ := h
    exact ⟨a, vs, e1, PlT.ext e h1, h2, RepL.ext e ds vs h3⟩
  | .lst ds, v, h => by
    simp only [Rep] at h ⊢
    obtain ⟨a, vs, e1, z, h1, h2, h3⟩ := h
    exact ⟨a, vs, e1, z.imp (e.zz _) id, SqL.ext e z h1, h2, RepL.ext e ds vs h3⟩
  | .dct kvs, v, h => by
    simp only [Rep] at h ⊢
    obtain ⟨a, l, e1, z, h1, h2, h3, h4⟩ := h
    exact ⟨a, l, e1, e.zz _ z, e.za _ _ h1 z (DicO_ne a l).1, h2, h3, RepK.ext e kvs l h4⟩
theorem RepL.ext (e : Ext H Z H' Z') : ∀ (ds : List PL.D) (vs : List V), RepL P w K H Z ds vs → RepL P w K H' Z' ds vs
  | [], vs, h => by simpa only [RepL] using h
  | d :: ds, vs, h => by
    simp only [RepL] at h ⊢
    obtain ⟨v, r, e1, h1, h2⟩ := h
    exact ⟨v, r, e1, Rep.ext e d v h1, RepL.ext e ds r h2⟩
theorem RepK.ext (e : Ext H Z H' Z') : ∀ (ds : List (PL.D × PL.D)) (l : List (NestedKey × Addr × V)), RepK P w K H Z ds l → RepK P w K H' Z' ds l
  | [], l, h => by simpa only [RepK] using h
  | (k, d) :: r, l, h => by
    simp only [RepK] at h ⊢
    obtain ⟨a, v, l', e1, h0, h1, h2, h3⟩ := h
    exact ⟨a, v, l', e1, h0, Rep.ext e k _ h1, Rep.ext e d v h2, RepK.ext e r l' h3⟩
end
theorem RepL.length : ∀ {ds : List PL.D} {vs : List V}, RepL P w K H Z ds vs → ds.length = vs.length
  | [], _, h => by simp only [RepL] at h; rw [h]; rfl
  | d :: ds, _, h => by
    simp only [RepL] at h
    obtain ⟨v, r, e, _, h2⟩ := h
    rw [e, List.length_cons, List.length_cons, RepL.length h2]
theorem RepK.length : ∀ {ds : List (PL.D × PL.D)} {l : List (NestedKey × Addr × V)}, RepK P w K H Z ds l → ds.length = l.length
  | [], _, h => by simp only [RepK] at h; rw [h]; rfl
  | (k, d) :: ds, _, h => by
    simp only [RepK] at h
    obtain ⟨a, v, r, e, _, _, _, h2⟩ := h
    rw [e, List.length_cons, List.length_cons, RepK.length h2]
theorem RepL.get : ∀ {ds : List PL.D} {vs : List V} {i : Nat} {d : PL.D}, RepL P w K H Z ds vs → ds[i]? = some d → ∃ v, vs[i]? = some v ∧ Rep P w K H Z d v
  | [], _, i, d, _, e => by simp at e
  | d :: ds, _, 0, d', h, e => by
    simp only [RepL] at h
    obtain ⟨v, r, e1, h1, _⟩ := h
    simp at e
    subst e
    exact ⟨v, by rw [e1]; rfl, h1⟩
  | d :: ds, _, i + 1, d', h, e => by
    simp only [RepL] at h
    obtain ⟨v, r, e1, _, h2⟩ := h
    obtain ⟨v', h3, h4⟩ := RepL.get (i := i) h2 (by simpa using e)
    exact ⟨v', by rw [e1]; simpa using h3, h4⟩
theorem RepL.get' {ds : List PL.D} {vs : List V} {i : Nat} {v : V} (h : RepL P w K H Z ds vs) (e : vs[i]? = some v) : ∃ d, ds[i]? = some d ∧ Rep P w K H Z d v := by
  have hl := h.length
  have hi : i < ds.length := by
    rw [hl]
    exact (List.getElem?_eq_some_iff.mp e).1
  obtain ⟨v', h1, h2⟩ := h.get (List.getElem?_eq_getElem hi)
  rw [e] at h1
  cases h1
  exact ⟨_, List.getElem?_eq_getElem hi, h2⟩
theorem RepL.append : ∀ {ds es : List PL.D} {vs ws : List V}, RepL P w K H Z ds vs → RepL P w K H Z es ws → RepL P w K H Z (ds ++ es) (vs ++ ws)
  | [], es, vs, ws, h, h' => by simp only [RepL] at h; subst h; exact h'
  | d :: ds, es, vs, ws, h, h' => by
    simp only [RepL] at h
    obtain ⟨v, r, e, h1, h2⟩ := h
    subst e
    show RepL P w K H Z (d :: (ds ++ es)) (v :: (r ++ ws))
    simp only [RepL]
    exact ⟨v, _, rfl, h1, RepL.append h2 h'⟩
theorem RepL.one {d : PL.D} {v : V} (h : Rep P w K H Z d v) : RepL P w K H Z [d] [v] := by
  simp only [RepL]
  exact ⟨v, [], rfl, h, rfl⟩
theorem RepL.cons {d : PL.D} {v : V} {ds : List PL.D} {vs : List V} (h : Rep P w K H Z d v) (h' : RepL P w K H Z ds vs) : RepL P w K H Z (d :: ds) (v :: vs) := by
  simp only [RepL]
  exact ⟨v, vs, rfl, h, h'⟩
theorem RepL.nil : RepL P w K H Z [] [] := by simp only [RepL]
theorem RepL.drop : ∀ {ds : List PL.D} {vs : List V} (n : Nat), RepL P w K H Z ds vs → RepL P w K H Z (ds.drop n) (vs.drop n)
  | _, _, 0, h => h
  | [], _, n + 1, h => by simp only [RepL] at h; subst h; simpa using RepL.nil
  | d :: ds, _, n + 1, h => by
    simp only [RepL] at h
    obtain ⟨v, r, e, _, h2⟩ := h
    subst e
    simpa using RepL.drop n h2
theorem RepL.take : ∀ {ds : List PL.D} {vs : List V} (n : Nat), RepL P w K H Z ds vs → RepL P w K H Z (ds.take n) (vs.take n)
  | _, _, 0, h => by simpa using RepL.nil
  | [], _, n + 1, h => by simp only [RepL] at h; subst h; simpa using RepL.nil
  | d :: ds, _, n + 1, h => by
    simp only [RepL] at h
    obtain ⟨v, r, e, h1, h2⟩ := h
    subst e
    simpa using RepL.cons h1 (RepL.take n h2)
theorem RepL.set {d : PL.D} {v : V} (hd : Rep P w K H Z d v) : ∀ {ds : List PL.D} {vs : List V} (n : Nat), RepL P w K H Z ds vs → RepL P w K H Z (ds.set n d) (vs.set n v)
  | [], _, n, h => by simp only [RepL] at h; subst h; simpa using RepL.nil
  | d' :: ds, _, 0, h => by
    simp only [RepL] at h
    obtain ⟨v', r, e, h1, h2⟩ := h
    subst e
    simpa using RepL.cons hd h2
  | d' :: ds, _, n + 1, h => by
    simp only [RepL] at h
    obtain ⟨v', r, e, h1, h2⟩ := h
    subst e
    simpa using RepL.cons h1 (RepL.set hd n h2)
theorem RepL.eraseIdx : ∀ {ds : List PL.D} {vs : List V} (n : Nat), RepL P w K H Z ds vs → RepL P w K H Z (ds.eraseIdx n) (vs.eraseIdx n)
  | [], _, n, h => by simp only [RepL] at h; subst h; simpa using RepL.nil
  | d' :: ds, _, 0, h => by
    simp only [RepL] at h
    obtain ⟨v', r, e, h1, h2⟩ := h
    subst e
    simpa using h2
  | d' :: ds, _, n + 1, h => by
    simp only [RepL] at h
    obtain ⟨v', r, e, h1, h2⟩ := h
    subst e
    simpa using RepL.cons h1 (RepL.eraseIdx n h2)
theorem RepL.rep {ds : List PL.D} {vs : List V} (h : RepL P w K H Z ds vs) : ∀ k : Nat, RepL P w K H Z (List.replicate k ds).flatten (List.replicate k vs).flatten
  | 0 => by simpa using RepL.nil
  | k + 1 => by
    rw [List.replicate_succ, List.replicate_succ, List.flatten_cons, List.flatten_cons]
    exact RepL.append h (RepL.rep h k)
theorem Rep.view {d : PL.D} {v : V} (h : Rep P w K H Z d v) : View P w K H Z d v := by
  cases d with
  | lst ds =>
    simp only [Rep] at h
    obtain ⟨a, vs, e, _, h1, h2, h3⟩ := h
    exact ⟨a, vs, e, h1, h2, h3⟩
  | dct kvs =>
    simp only [Rep] at h
    obtain ⟨a, l, e, _, h1, h2, h3, h4⟩ := h
    exact ⟨a, l, e, h1, h2, h3, h4⟩
  | _ => exact h
theorem RepO.view {x : PL.OV} {a : Addr} {d : PL.D} (h : RepO P w K H Z x a) (e : x.data = some d) : View P w K H Z d (.ref a) := by
  cases x with
  | l ds =>
    cases e
    obtain ⟨vs, h1, h2, h3⟩ := h
    exact ⟨a, vs, rfl, SqL.of h1, h2, h3⟩
  | k kvs =>
    cases e
    obtain ⟨l, h1, h2, h3, h4⟩ := h
    exact ⟨a, l, rfl, h1, h2, h3, h4⟩
  | _ => exact h.elim
/-- an owned object that is never changed any more -/
theorem RepO.frozen {x : PL.OV} {a : Addr} {d : PL.D} (h : RepO P w K H Z x a) (e : x.data = some d) (hz : ∀ b, Z b → Z' b) (za : Z' a) : Rep P w K H Z' d (.ref a) := by
  have ex : Ext H Z H Z' := ⟨hz, fun _ _ h _ _ => h, fun _ _ h => h, fun _ _ _ h => h⟩
  cases x with
  | l ds =>
    cases e
    obtain ⟨vs, h1, h2, h3⟩ := h
    simp only [Rep]
    exact ⟨a, vs, rfl, .inl za, SqL.of h1, h2, RepL.ext ex _ _ h3⟩
  | k kvs =>
    cases e
    obtain ⟨l, h1, h2, h3, h4⟩ := h
    simp only [Rep]
    exact ⟨a, l, rfl, za, h1, h2, h3, RepK.ext ex _ _ h4⟩
  | _ => exact h.elim
theorem RepO.ext {x : PL.OV} {a : Addr} (e : Ext H Z H' Z') (ha : ∀ o, H a = some o → (∀ ps, o ≠ .tbl ps) → H' a = some o) (h : RepO P w K H Z x a) : RepO P w K H' Z' x a := by
  cases x with
  | l ds =>
    obtain ⟨vs, h1, h2, h3⟩ := h
    exact ⟨vs, ha _ h1 (fun _ q => by cases q), h2, RepL.ext e _ _ h3⟩
  | k kvs =>
    obtain ⟨l, h1, h2, h3, h4⟩ := h
    exact ⟨l, ha _ h1 (DicO_ne a l).1, h2, h3, RepK.ext e _ _ h4⟩
  | _ => exact h.elim
/-- what stands at an owned address is neither a tuple nor a table nor locked -/
theorem RepO.kind {x : PL.OV} {a : Addr} (h : RepO P w K H Z x a) : ∃ o, H a = some o ∧ (∀ ps, o ≠ .tbl ps) ∧ (∀ xs, o ≠ .tup xs) ∧ (∀ b u, o ≠ .frz b u) := by
  cases x with
  | l ds =>
    obtain ⟨vs, h1, _⟩ := h
    exact ⟨_, h1, fun _ q => (by cases q), fun _ q => (by cases q), fun _ _ q => (by cases q)⟩
  | k kvs =>
    obtain ⟨l, h1, _⟩ := h
    exact ⟨_, h1, (DicO_ne a l).1, (DicO_ne a l).2.1, (DicO_ne a l).2.2.2⟩
  | _ => exact h.elim
end
end PLS
end

section
set_option Elab.async false
set_option linter.all false
set_option maxRecDepth 100000
set_option maxHeartbeats 4000000
/-! the soundness of P-lang: frames, steps, readings -/
namespace PLS
open PySem PySem.Spec PyProof.Rows L2

abbrev St := L2.St
/-- what is fixed: the program, the world, the written part; the tables of code objects; how a lambda stands; the slots that are lent -/
structure GS where
  P : Program
  w : World
  K : PySem.W.Frag
  T : List (Addr × Str)
  LA : Nat → Addr → HO
  IO : List Nat
  nl : ∀ n f l, LA n f ≠ .lst l
  nt : ∀ n f ps, LA n f ≠ .tbl ps
  nd : ∀ n f d l, LA n f ≠ DicO P w d l

section
variable (G : GS)
abbrev GS.R (G : GS) (H : Hp) (Z : Addr → Prop) : PL.D → V → Prop := Rep G.P G.w G.K H Z
abbrev GS.RL (G : GS) (H : Hp) (Z : Addr → Prop) : List PL.D → List V → Prop := RepL G.P G.w G.K H Z
abbrev GS.Vw (G : GS) (H : Hp) (Z : Addr → Prop) : PL.D → V → Prop := View G.P G.w G.K H Z
abbrev GS.O (G : GS) (H : Hp) (Z : Addr → Prop) : PL.OV → Addr → Prop := RepO G.P G.w G.K H Z

def RepS (H : Hp) (Z : Addr → Prop) : PL.SV → V → Prop
  | .d x, v => G.R H Z x v
  | .w x, v => ∃ a : Addr, v = .ref a ∧ ¬ Z a ∧ G.O H Z x a
  | .lam n, v => ∃ f : Addr, v = .ref f ∧ H f = some (G.LA n f)
  | .ali _ _, _ => False
/-- a is owned by a slot -/
def Own (σ : St) (ρ : PL.Env) (a : Addr) : Prop := ∃ (i : Nat) (x : PL.OV), ρ[i]? = some (some (.w x)) ∧ σ[i]? = some (some (V.ref a))
structure REnv (H : Hp) (Z : Addr → Prop) (σ : St) (ρ : PL.Env) : Prop where
  len : σ.length = ρ.length
  at_ : ∀ (i : Nat) (s : PL.SV), ρ[i]? = some (some s) → ∃ v, σ[i]? = some (some v) ∧ RepS G H Z s v
  apart : ∀ (i j : Nat) (x : PL.OV) (s : PL.SV) (a : Addr), ρ[i]? = some (some (.w x)) → ρ[j]? = some (some s) → (∀ d, s ≠ .d d) → σ[i]? = some (some (.ref a)) → σ[j]? = some (some (.ref a)) → i = j
  tabs : LamX.Tabs G.T H
  zin : ∀ a, Z a → ∃ o, H a = some o
/-- from (H, Z, σ, ρ) to (H', Z', σ', ρ') -/
structure Step (H : Hp) (Z : Addr → Prop) (σ : St) (ρ : PL.Env) (H' : Hp) (Z' : Addr → Prop) (σ' : St) (ρ' : PL.Env) : Prop where
  env : REnv G H' Z' σ' ρ'
  zz : ∀ a, Z a → Z' a
  zn : ∀ a, Z' a → Z a ∨ H a = none ∨ Own σ ρ a
  keep : ∀ a o, H a = some o → ¬ Own σ ρ a → (∀ ps, o ≠ .tbl ps) → H' a = some o
  own : ∀ a, Own σ' ρ' a → Own σ ρ a ∨ H a = none
  live : ∀ a, H' a = none → H a = none
  fix : ∀ i ∈ G.IO, σ'[i]? = σ[i]?
end

section
variable {G : GS} {H H1 H2 H' : Hp} {Z Z1 Z2 Z' : Addr → Prop} {σ σ1 σ2 σ' : St} {ρ ρ1 ρ2 ρ' : PL.Env}
theorem slot_some {i : Nat} {s : PL.SV} : PL.slot ρ i = some s ↔ ρ[i]? = some (some s) := by
  unfold PL.slot
  cases h : ρ[i]? with
  | none => simp
  | some o => cases o <;> simp
theorem REnv.ownZ (I : REnv G H Z σ ρ) {a : Addr} (h : Own σ ρ a) : ¬ Z a ∧ ∃ o, H a = some o ∧ (∀ ps, o ≠ .tbl ps) ∧ (∀ xs, o ≠ .tup xs) ∧ (∀ b u, o ≠ .frz b u) := by
  obtain ⟨i, x, h1, h2⟩ := h
  obtain ⟨v, h3, h4⟩ := I.at_ i _ h1
  rw [h2] at h3
  cases h3
  obtain ⟨a', e, nz, r⟩ := h4
  cases e
  exact ⟨nz, RepO.kind r⟩
theorem Step.refl (I : REnv G H Z σ ρ) : Step G H Z σ ρ H Z σ ρ := ⟨I, fun _ h => h, fun _ h => .inl h, fun _ _ h _ _ => h, fun _ h => .inl h, fun _ h => h, fun _ _ => rfl⟩
theorem Step.trans (a : Step G H Z σ ρ H1 Z1 σ1 ρ1) (b : Step G H1 Z1 σ1 ρ1 H2 Z2 σ2 ρ2) : Step G H Z σ ρ H2 Z2 σ2 ρ2 where
  env := b.env
  zz := fun x h => b.zz x (a.zz x h)
  zn := fun x h => by
    rcases b.zn x h with h | h | h
    · exact a.zn x h
    · exact .inr (.inl (a.live x h))
    · exact (a.own x h).elim (fun z => .inr (.inr z)) fun z => .inr (.inl z)
  keep := fun x o h n t => b.keep x o (a.keep x o h n t) (fun z => (a.own x z).elim n fun e => by rw [h] at e; cases e) t
  own := fun x h => by
    rcases b.own x h with h | h
    · exact a.own x h
    · exact .inr (a.live x h)
  live := fun x h => a.live x (b.live x h)
  fix := fun i hi => (b.fix i hi).trans (a.fix i hi)
theorem Step.ext (I : REnv G H Z σ ρ) (s : Step G H Z σ ρ H' Z' σ' ρ') : Ext H Z H' Z' where
  zz := s.zz
  za := fun a o h z t => s.keep a o h (fun q => (I.ownZ q).1 z) t
  tup := fun a xs h => s.keep a _ h (fun q => by
    obtain ⟨_, o, e, _, n, _⟩ := I.ownZ q
    rw [h] at e
    cases e
    exact n xs rfl) (fun ps q => by cases q)
  frz := fun a o u h => s.keep a _ h (fun q => by
    obtain ⟨_, o', e, _, _, n⟩ := I.ownZ q
    rw [h] at e
    cases e
    exact n o u rfl) (fun ps q => by cases q)
/-- only the heap grows: nothing that was tracked changed -/
theorem REnv.grow (I : REnv G H Z σ ρ) (g : ∀ a o, H a = some o → H' a = some o) : Step G H Z σ ρ H' Z σ ρ := by
  have e : Ext H Z H' Z := ⟨fun _ h => h, fun a o h _ _ => g a o h, fun a xs h => g _ _ h, fun a o u h => g _ _ h⟩
  refine ⟨⟨I.len, fun i s h => ?_, I.apart, I.tabs.ext g, fun a z => (I.zin a z).elim fun o h => ⟨o, g a o h⟩⟩, fun _ h => h, fun _ h => .inl h, fun a o h _ _ => g a o h, fun _ h => .inl h, fun a h => ?_, fun _ _ => rfl⟩
  · obtain ⟨v, h1, h2⟩ := I.at_ i s h
    refine ⟨v, h1, ?_⟩
    cases s with
    | d x => exact Rep.ext e x v h2
    | w x =>
      obtain ⟨a, e1, nz, r⟩ := h2
      exact ⟨a, e1, nz, RepO.ext e (fun o h _ => g a o h) r⟩
    | lam n =>
      obtain ⟨f, e1, h3⟩ := h2
      exact ⟨f, e1, g _ _ h3⟩
    | ali i k => exact h2
  · cases q : H a with
    | none => rfl
    | some o => rw [g a o q] at h; cases h
end

/-! ### what an expression gives -/
section
variable (G : GS)
/-- H₀: the heap at the start; a new object was not there then -/
def RepA (H₀ H : Hp) (Z : Addr → Prop) (σ : St) (ρ : PL.Env) : PL.AV → V → Prop
  | .v d, v => G.R H Z d v
  | .f x, v => ∃ a : Addr, v = .ref a ∧ H₀ a = none ∧ ¬ Z a ∧ ¬ Own σ ρ a ∧ G.O H Z x a
  | .r i, v => σ[i]? = some (some v)
  | .p _ _, _ => False
/-- how an exception's arguments stand; c: its class -/
def RepX (c : String) (H : Hp) (ps : List PL.D) (d : Option Addr) : Prop :=
  ps = [] ∨ ∃ (a : Addr) (fs : List (Str × V)) (Z : Addr → Prop), d = some a ∧ H a = some (.xd fs) ∧ fs.reverse.map (·.1) = (PL.flds c).map Str.ofString ∧ G.RL H Z ps (fs.reverse.map (·.2)) ∧ ∀ d ∈ ps, d.keyable = true
/-- behind an exception of the class c -/
structure Exc (c : String) (H : Hp) (σ : St) (ρ : PL.Env) (ps : List PL.D) (d : Option Addr) (H' : Hp) : Prop where
  keep : ∀ a o, H a = some o → ¬ Own σ ρ a → (∀ ps, o ≠ .tbl ps) → H' a = some o
  live : ∀ a, H' a = none → H a = none
  tabs : LamX.Tabs G.T H'
  pay : RepX G c H' ps d
/-- the outcome of an evaluation: what holds of its value; what is wanted of an exception (W: by its class, its dict, the slots, the heap) -/
def Outc {α : Type} (W : WX) (H : Hp) (σ : St) (ρ : PL.Env) (x : PL.Res (α × PL.Env)) (ok : α → PL.Env → Prop) : Prop := match x with
  | .ok (a, ρ') => ok a ρ'
  | .exc c ps => ∀ d H', Exc G c H σ ρ ps d H' → W (.ref (He.ga G.K (Str.ofString c))) d σ H'
  | .stuck => False
end
section
variable {G : GS} {H H1 H2 H' H₀ : Hp} {Z Z1 Z2 Z' : Addr → Prop} {σ σ1 σ2 σ' : St} {ρ ρ1 ρ2 ρ' : PL.Env} {W : WX}
theorem Exc.back (s : Step G H Z σ ρ H1 Z1 σ1 ρ1) {c : String} {ps : List PL.D} {d : Option Addr} {H' : Hp} (x : Exc G c H1 σ1 ρ1 ps d H') : Exc G c H σ ρ ps d H' where
  keep := fun a o h n t => x.keep a o (s.keep a o h n t) (fun z => (s.own a z).elim n fun e => by rw [h] at e; cases e) t
  live := fun a h => s.live a (x.live a h)
  tabs := x.tabs
  pay := x.pay
theorem Outc.bind {α β : Type} {x : PL.Res (α × PL.Env)} {f : α × PL.Env → PL.Res (β × PL.Env)} {ok : β → PL.Env → Prop} (h : Outc G W H σ ρ (x.bind f) ok) :
    Outc G W H σ ρ x (fun a ρ1 => Outc G W H σ ρ (f (a, ρ1)) ok) := by
  cases x with
  | ok p => obtain ⟨a, ρ1⟩ := p; exact h
  | exc c ps => exact h
  | stuck => exact h
theorem Outc.join {α β : Type} {x : PL.Res (α × PL.Env)} {f : α × PL.Env → PL.Res (β × PL.Env)} {ok : β → PL.Env → Prop} (h : Outc G W H σ ρ x (fun a ρ1 => Outc G W H σ ρ (f (a, ρ1)) ok)) : Outc G W H σ ρ (x.bind f) ok := by
  cases x with
  | ok p => obtain ⟨a, ρ1⟩ := p; exact h
  | exc c ps => exact h
  | stuck => exact h
theorem Outc.mono {α : Type} {x : PL.Res (α × PL.Env)} {ok ok' : α → PL.Env → Prop} (h : Outc G W H σ ρ x ok) (m : ∀ a ρ', ok a ρ' → ok' a ρ') : Outc G W H σ ρ x ok' := by
  cases x with
  | ok p => exact m _ _ h
  | exc c ps => exact h
  | stuck => exact h
/-- from a later state's own outcome -/
theorem Outc.at {α : Type} {x : PL.Res (α × PL.Env)} {ok : α → PL.Env → Prop} (s : Step G H Z σ ρ H1 Z1 σ ρ1) (h : Outc G W H σ ρ x ok) : Outc G W H1 σ ρ1 x ok := by
  cases x with
  | ok p => exact h
  | exc c ps => exact fun d H' e => h d H' (e.back s)
  | stuck => exact h
theorem Outc.ofO {α β : Type} {o : Option α} {f : α → PL.Res (β × PL.Env)} {ok : β → PL.Env → Prop} (h : Outc G W H σ ρ ((PL.ofO o).bind f) ok) : ∃ a, o = some a ∧ Outc G W H σ ρ (f a) ok := by
  cases o with
  | none => exact h.elim
  | some a => exact ⟨a, rfl, h⟩

theorem RepA.step (I : REnv G H1 Z1 σ ρ1) (s : Step G H1 Z1 σ ρ1 H2 Z2 σ ρ2) {av : PL.AV} {v : V} (h : RepA G H₀ H1 Z1 σ ρ1 av v) : RepA G H₀ H2 Z2 σ ρ2 av v := by
  cases av with
  | v d => exact Rep.ext (s.ext I) d v h
  | f x =>
    obtain ⟨a, e, n0, nz, no, r⟩ := h
    obtain ⟨o, ho, t, _⟩ := RepO.kind r
    refine ⟨a, e, n0, fun z => ?_, fun z => ?_, RepO.ext (s.ext I) (fun o h t => s.keep a o h no t) r⟩
    · rcases s.zn a z with z | z | z
      · exact nz z
      · rw [ho] at z; cases z
      · exact no z
    · rcases s.own a z with z | z
      · exact no z
      · rw [ho] at z; cases z
  | r i => exact h
  | p i x => exact h
theorem RepA.from (live : ∀ a, H1 a = none → H₀ a = none) {av : PL.AV} {v : V} (h : RepA G H1 H Z σ ρ av v) : RepA G H₀ H Z σ ρ av v := by
  cases av with
  | v d => exact h
  | f x =>
    obtain ⟨a, e, n0, r⟩ := h
    exact ⟨a, e, live a n0, r⟩
  | r i => exact h
  | p i x => exact h
theorem look_view (I : REnv G H Z σ ρ) {av : PL.AV} {v : V} {d : PL.D} (h : RepA G H₀ H Z σ ρ av v) (e : PL.look ρ av = some d) : G.Vw H Z d v := by
  cases av with
  | v d' => cases e; exact Rep.view h
  | f x =>
    obtain ⟨a, rfl, _, _, _, r⟩ := h
    exact RepO.view r e
  | r i =>
    unfold PL.look at e
    dsimp only at e
    cases q : PL.slot ρ i with
    | none => rw [q] at e; cases e
    | some s =>
      rw [q] at e
      obtain ⟨v', h1, h2⟩ := I.at_ i s (slot_some.mp q)
      have h : σ[i]? = some (some v) := h
      rw [h] at h1
      cases h1
      cases s with
      | d x => cases e; exact Rep.view h2
      | w x =>
        obtain ⟨a, rfl, _, r⟩ := h2
        exact RepO.view r e
      | lam n => cases e
      | ali j k => exact h2.elim
  | p i x => exact h.elim
theorem own_set {i : Nat} {d : PL.D} {a : Addr} (h : Own σ (ρ.set i (some (.d d))) a) : Own σ ρ a := by
  obtain ⟨j, x, h1, h2⟩ := h
  by_cases e : i = j
  · subst e
    by_cases hl : i < ρ.length
    · rw [List.getElem?_set_self hl] at h1; cases h1
    · rw [List.getElem?_eq_none (by simpa using Nat.le_of_not_lt hl)] at h1; cases h1
  · rw [List.getElem?_set_ne e] at h1
    exact ⟨j, x, h1, h2⟩
theorem ext_z {a : Addr} : Ext H Z H (fun b => Z b ∨ b = a) := ⟨fun _ h => .inl h, fun _ _ h _ _ => h, fun _ _ h => h, fun _ _ _ h => h⟩
/-- something is taken: it is not changed any more -/
theorem take_step {H₀ : Hp} {Z₀ : Addr → Prop} {ρ₀ : PL.Env} (s : Step G H₀ Z₀ σ ρ₀ H Z σ ρ) {av : PL.AV} {v : V} {d : PL.D} (h : RepA G H₀ H Z σ ρ av v) (e : PL.take ρ av = some (d, ρ')) :
    ∃ Z', Step G H₀ Z₀ σ ρ₀ H Z' σ ρ' ∧ G.R H Z' d v := by
  have I := s.env
  cases av with
  | v d' =>
    cases e
    exact ⟨Z, s, h⟩
  | f x =>
    obtain ⟨a, rfl, n0, nz, no, r⟩ := h
    unfold PL.take at e
    dsimp only at e
    cases q : x.data with
    | none => rw [q] at e; cases e
    | some d' =>
      rw [q] at e
      cases e
      obtain ⟨oa, hoa, _⟩ := RepO.kind r
      refine ⟨fun b => Z b ∨ b = a, ⟨⟨I.len, fun i sv h => ?_, I.apart, I.tabs, fun b z => z.elim (I.zin b) fun e => ⟨oa, by rw [e]; exact hoa⟩⟩, fun b z => .inl (s.zz b z), fun b z => ?_, s.keep, s.own, s.live, s.fix⟩, RepO.frozen r q (fun _ z => .inl z) (.inr rfl)⟩
      · obtain ⟨v, h1, h2⟩ := I.at_ i sv h
        refine ⟨v, h1, ?_⟩
        cases sv with
        | d y => exact Rep.ext ext_z y v h2
        | w y =>
          obtain ⟨b, e1, nzb, rb⟩ := h2
          refine ⟨b, e1, fun z => z.elim nzb fun z => ?_, RepO.ext ext_z (fun _ h _ => h) rb⟩
          subst z
          subst e1
          exact no ⟨i, y, h, h1⟩
        | lam n => exact h2
        | ali j k => exact h2
      · rcases z with z | rfl
        · exact s.zn b z
        · exact .inr (.inl n0)
  | r i =>
    unfold PL.take at e
    dsimp only at e
    cases q : PL.slot ρ i with
    | none => rw [q] at e; cases e
    | some sv =>
      rw [q] at e
      have qi := slot_some.mp q
      obtain ⟨v', h1, h2⟩ := I.at_ i sv qi
      have h : σ[i]? = some (some v) := h
      rw [h] at h1
      cases h1
      cases sv with
      | d x => cases e; exact ⟨Z, s, h2⟩
      | w x =>
        obtain ⟨a, rfl, nz, r⟩ := h2
        dsimp only at e
        cases q2 : x.data with
        | none => rw [q2] at e; cases e
        | some d' =>
          rw [q2] at e
          cases e
          have hil : i < ρ.length := (List.getElem?_eq_some_iff.mp qi).1
          obtain ⟨oa, hoa, _⟩ := RepO.kind r
          refine ⟨fun b => Z b ∨ b = a, ⟨⟨by rw [List.length_set]; exact I.len, fun j sv h' => ?_, fun j k y t b h1 h2 h3 h4 h5 => ?_, I.tabs, fun b z => z.elim (I.zin b) fun e => ⟨oa, by rw [e]; exact hoa⟩⟩, fun b z => .inl (s.zz b z), fun b z => ?_, s.keep, fun b z => s.own b (own_set z), s.live, s.fix⟩, RepO.frozen r q2 (fun _ z => .inl z) (.inr rfl)⟩
          · by_cases eij : i = j
            · subst eij
              rw [List.getElem?_set_self hil] at h'
              cases h'
              exact ⟨_, h, RepO.frozen r q2 (fun _ z => .inl z) (.inr rfl)⟩
            · rw [List.getElem?_set_ne eij] at h'
              obtain ⟨v, h1, h2⟩ := I.at_ j sv h'
              refine ⟨v, h1, ?_⟩
              cases sv with
              | d y => exact Rep.ext ext_z y v h2
              | w y =>
                obtain ⟨b, e1, nzb, rb⟩ := h2
                refine ⟨b, e1, fun z => z.elim nzb fun z => ?_, RepO.ext ext_z (fun _ h _ => h) rb⟩
                subst z
                subst e1
                exact eij (I.apart i j x (.w y) b qi h' (fun d q => by cases q) h h1)
              | lam n => exact h2
              | ali j k => exact h2
          · have g1 : ρ[j]? = some (some (.w y)) := by
              by_cases eij : i = j
              · subst eij; rw [List.getElem?_set_self hil] at h1; cases h1
              · rwa [List.getElem?_set_ne eij] at h1
            have g2 : ρ[k]? = some (some t) := by
              by_cases eik : i = k
              · subst eik; rw [List.getElem?_set_self hil] at h2; cases h2; exact absurd rfl (h3 _)
              · rwa [List.getElem?_set_ne eik] at h2
            exact I.apart j k y t b g1 g2 h3 h4 h5
          · rcases z with z | rfl
            · exact s.zn b z
            · exact (s.own b ⟨i, x, qi, h⟩).elim (fun z => .inr (.inr z)) fun z => .inr (.inl z)
      | lam n => cases e
      | ali j k => exact h2.elim
  | p i x => exact h.elim
end

/-! ### readings -/
section
variable (G : GS) (W : WX)
def tE (r : PL.Ev PL.AV) : TE := fun σ H Q => ∃ Z ρ, REnv G H Z σ ρ ∧ Outc G W H σ ρ (r ρ) fun av ρ' => ∀ v H' Z', Step G H Z σ ρ H' Z' σ ρ' → RepA G H H' Z' σ ρ' av v → Q v H'
def tD (r : PL.Ev PL.D) : TE := fun σ H Q => ∃ Z ρ, REnv G H Z σ ρ ∧ Outc G W H σ ρ (r ρ) fun d ρ' => ∀ v H' Z', Step G H Z σ ρ H' Z' σ ρ' → G.R H' Z' d v → Q v H'
def tB (r : PL.Ev Bool) : TT := fun σ H Q => ∃ Z ρ, REnv G H Z σ ρ ∧ Outc G W H σ ρ (r ρ) fun b ρ' => ∀ H' Z', Step G H Z σ ρ H' Z' σ ρ' → Q b H'
def tDs (r : PL.Ev (List PL.D)) : TA := fun σ H Q => ∃ Z ρ, REnv G H Z σ ρ ∧ Outc G W H σ ρ (r ρ) fun ds ρ' => ∀ vs H' Z', Step G H Z σ ρ H' Z' σ ρ' → G.RL H' Z' ds vs → Q vs H'
end
section
variable {X : Cx} {e : Expr} {t t' : TE}
theorem _root_.L2.PE.imq (h : PE X e t) (i : ∀ σ H Q, t' σ H Q → t σ H Q) : PE X e t' := ⟨fun pins s σ H Q I q => h.run pins s σ H Q I (i σ H Q q)⟩
theorem _root_.L2.PT.imq {t t' : TT} (h : PT X e t) (i : ∀ σ H Q, t' σ H Q → t σ H Q) : PT X e t' := ⟨fun pins s σ H Q I q => h.run pins s σ H Q I (i σ H Q q)⟩
theorem _root_.L2.PW.imq {t t' : TT} (h : PW X e t) (i : ∀ σ H Q, t' σ H Q → t σ H Q) : PW X e t' := ⟨fun wh pins s σ H Q I q => h.run wh pins s σ H Q I (i σ H Q q)⟩
theorem _root_.L2.PA.imq {es : List Expr} {t t' : TA} (h : PA X es t) (i : ∀ σ H Q, t' σ H Q → t σ H Q) : PA X es t' := ⟨fun pos pins s σ H Q I q => h.run pos pins s σ H Q I (i σ H Q q)⟩
theorem _root_.L2.PS.imq {st : Stmt} {t t' : TS} (h : PS X st t) (i : ∀ D σ H, t' D σ H → t D σ H) : PS X st t' := ⟨fun pins s σ H D I q => h.run pins s σ H D I (i D σ H q)⟩
theorem _root_.L2.PSs.imq {st : List Stmt} {t t' : TS} (h : PSs X st t) (i : ∀ D σ H, t' D σ H → t D σ H) : PSs X st t' := ⟨fun pins s σ H D I q => h.run pins s σ H D I (i D σ H q)⟩
end
end PLS
end

section
set_option Elab.async false
set_option linter.all false
set_option maxRecDepth 100000
set_option maxHeartbeats 4000000
/-! the soundness of P-lang: data read as the library reads them -/
namespace PLS
open PySem PySem.Spec PyProof.Rows L2 PySem.W
mutual
def pd : PL.D → PyData
  | .non => .none
  | .bl b => .bool b
  | .int i => .int i
  | .str x => .str ⟨x.toArray⟩
  | .tup xs => .tuple (pdAll xs)
  | .lst xs => .list (pdAll xs)
  | _ => .none
def pdAll : List PL.D → List PyData
  | [] => []
  | x :: xs => pd x :: pdAll xs
end
theorem pdAll_map : ∀ xs, pdAll xs = xs.map pd
  | [] => rfl
  | x :: xs => by rw [pdAll, pdAll_map xs, List.map_cons]
theorem pdAll_len (xs : List PL.D) : (pdAll xs).length = xs.length := by rw [pdAll_map, List.length_map]
mutual
theorem pd_plain : ∀ d : PL.D, d.plain = true → (pd d).plain = true
  | .non, _ => rfl
  | .bl _, _ => rfl
  | .int _, _ => rfl
  | .str _, _ => rfl
  | .tup xs, h => by
    rw [PL.D.plain] at h
    rw [pd, PyData.plain]
    exact pdAll_plain xs h
  | .lst xs, h => by
    rw [PL.D.plain] at h
    rw [pd, PyData.plain]
    exact pdAll_plain xs h
  | .dct _, h => by rw [PL.D.plain] at h; cases h
  | .fn _, h => by rw [PL.D.plain] at h; cases h
theorem pdAll_plain : ∀ ds : List PL.D, PL.plainAll ds = true → PyData.plainAll (pdAll ds) = true
  | [], _ => rfl
  | d :: ds, h => by
    rw [PL.plainAll, Bool.and_eq_true] at h
    rw [pdAll, PyData.plainAll, pd_plain d h.1, pdAll_plain ds h.2]
    rfl
end
mutual
theorem pd_depth : ∀ d : PL.D, (pd d).depth = d.depth
  | .non => rfl
  | .bl _ => rfl
  | .int _ => rfl
  | .str _ => rfl
  | .tup xs => by rw [pd, PyData.depth, PL.D.depth, pdAll_depth xs]
  | .lst xs => by rw [pd, PyData.depth, PL.D.depth, pdAll_depth xs]
  | .dct _ => rfl
  | .fn _ => rfl
theorem pdAll_depth : ∀ ds : List PL.D, PyData.depthAll (pdAll ds) = PL.depthAll ds
  | [] => rfl
  | d :: ds => by rw [pdAll, PyData.depthAll, PL.depthAll, pd_depth d, pdAll_depth ds]
end
theorem str_inj {x y : PL.Txt} : ((⟨x.toArray⟩ : Str) = ⟨y.toArray⟩) ↔ x = y := ⟨fun h => by
  injection h with h
  have := congrArg Array.toList h
  simpa using this, fun h => by rw [h]⟩
theorem int_beq (i j : Int) : (i == j) = decide (i = j) := by
  by_cases h : i = j
  · rw [decide_eq_true h]; exact beq_iff_eq.mpr h
  · rw [decide_eq_false h]; exact beq_eq_false_iff_ne.mpr h
theorem str_beq (x y : PL.Txt) : ((⟨x.toArray⟩ : Str) == ⟨y.toArray⟩) = decide (x = y) := by
  by_cases h : x = y
  · rw [decide_eq_true h, h]; exact beq_self_eq_true _
  · rw [decide_eq_false h]; exact beq_eq_false_iff_ne.mpr fun e => h (str_inj.mp e)
mutual
theorem pd_eqv : ∀ a b : PL.D, a.plain = true → b.plain = true → PyData.eqv (pd a) (pd b) = a.eqv b
  | .tup xs, .tup ys, h, h' => by
    rw [PL.D.plain] at h h'
    rw [pd, pd, PyData.eqv, PL.D.eqv, pdAll_eqv xs ys h h']
  | .lst xs, .lst ys, h, h' => by
    rw [PL.D.plain] at h h'
    rw [pd, pd, PyData.eqv, PL.D.eqv, pdAll_eqv xs ys h h']
  | .bl a, .bl b, _, _ => by simp only [pd, PyData.eqv, PL.D.eqv]
  | .bl a, .int b, _, _ => by simp only [pd, PyData.eqv, PL.D.eqv, int_beq]
  | .int a, .bl b, _, _ => by simp only [pd, PyData.eqv, PL.D.eqv, int_beq]
  | .int a, .int b, _, _ => by simp only [pd, PyData.eqv, PL.D.eqv, int_beq]
  | .str a, .str b, _, _ => by simp only [pd, PyData.eqv, PL.D.eqv, str_beq]
  | .non, .non, _, _ => rfl
  | .non, .bl _, _, _ | .non, .int _, _, _ | .non, .str _, _, _ | .non, .tup _, _, _ | .non, .lst _, _, _ => by simp only [pd, PyData.eqv, PL.D.eqv]
  | .bl _, .non, _, _ | .bl _, .str _, _, _ | .bl _, .tup _, _, _ | .bl _, .lst _, _, _ => by simp only [pd, PyData.eqv, PL.D.eqv]
  | .int _, .non, _, _ | .int _, .str _, _, _ | .int _, .tup _, _, _ | .int _, .lst _, _, _ => by simp only [pd, PyData.eqv, PL.D.eqv]
  | .str _, .non, _, _ | .str _, .int _, _, _ | .str _, .bl _, _, _ | .str _, .tup _, _, _ | .str _, .lst _, _, _ => by simp only [pd, PyData.eqv, PL.D.eqv]
  | .tup _, .non, _, _ | .tup _, .int _, _, _ | .tup _, .bl _, _, _ | .tup _, .str _, _, _ | .tup _, .lst _, _, _ => by simp only [pd, PyData.eqv, PL.D.eqv]
  | .lst _, .non, _, _ | .lst _, .int _, _, _ | .lst _, .bl _, _, _ | .lst _, .str _, _, _ | .lst _, .tup _, _, _ => by simp only [pd, PyData.eqv, PL.D.eqv]
  | .dct _, _, h, _ => by rw [PL.D.plain] at h; cases h
  | .fn _, _, h, _ => by rw [PL.D.plain] at h; cases h
  | _, .dct _, _, h => by rw [PL.D.plain] at h; cases h
  | _, .fn _, _, h => by rw [PL.D.plain] at h; cases h
theorem pdAll_eqv : ∀ xs ys : List PL.D, PL.plainAll xs = true → PL.plainAll ys = true → PyData.eqvAll (pdAll xs) (pdAll ys) = PL.eqvAll xs ys
  | [], [], _, _ => rfl
  | [], _ :: _, _, _ => rfl
  | _ :: _, [], _, _ => rfl
  | x :: xs, y :: ys, h, h' => by
    rw [PL.plainAll, Bool.and_eq_true] at h h'
    rw [pdAll, pdAll, PyData.eqvAll, PL.eqvAll, pd_eqv x y h.1 h'.1, pdAll_eqv xs ys h.2 h'.2]
end
mutual
theorem pd_alike : ∀ a b : PL.D, a.alike b = true → alike (pd a) (pd b) = true
  | .tup xs, .tup ys, h => by
    rw [PL.D.alike] at h
    rw [pd, pd, alike]
    exact pdAll_alike xs ys h
  | .lst xs, .lst ys, h => by
    rw [PL.D.alike] at h
    rw [pd, pd, alike]
    exact pdAll_alike xs ys h
  | .bl a, .bl b, _ => rfl
  | .int a, .int b, _ => rfl
  | .str a, .str b, _ => rfl
  | .non, .non, _ => rfl
theorem pdAll_alike : ∀ xs ys : List PL.D, PL.alikeAll xs ys = true → alikeAll (pdAll xs) (pdAll ys) = true
  | [], [], _ => rfl
  | [], _ :: _, _ => rfl
  | _ :: _, [], _ => rfl
  | x :: xs, y :: ys, h => by
    rw [PL.alikeAll, Bool.and_eq_true] at h
    rw [pdAll, pdAll, alikeAll, pd_alike x y h.1, pdAll_alike xs ys h.2]
    rfl
end
theorem lt_txt : ∀ x y : PL.Txt, decide (x < y) = PL.ltTxt x y
  | [], [] => by simp [PL.ltTxt]
  | [], _ :: _ => by simp [PL.ltTxt]
  | _ :: _, [] => by simp [PL.ltTxt]
  | x :: xs, y :: ys => by
    rw [PL.ltTxt, ← lt_txt xs ys]
    by_cases h : x = y
    · subst h
      simp [List.cons_lt_cons_iff]
    · rw [if_neg h]
      simp [List.cons_lt_cons_iff, h]
mutual
theorem pd_lt : ∀ a b : PL.D, a.plain = true → b.plain = true → a.alike b = true → dataLt (pd a) (pd b) = a.lt b
  | .tup xs, .tup ys, h1, h2, h => by
    rw [PL.D.plain] at h1 h2
    rw [PL.D.alike] at h
    rw [pd, pd, dataLt_tuple, PL.D.lt]
    exact pdAll_lt xs ys h1 h2 h
  | .lst xs, .lst ys, h1, h2, h => by
    rw [PL.D.plain] at h1 h2
    rw [PL.D.alike] at h
    rw [pd, pd, dataLt_list, PL.D.lt]
    exact pdAll_lt xs ys h1 h2 h
  | .bl a, .bl b, _, _, _ => by
    rw [pd, pd, dataLt_bool, PL.D.lt]
    cases a <;> cases b <;> rfl
  | .int a, .int b, _, _, _ => by rw [pd, pd, dataLt_int, PL.D.lt]
  | .str a, .str b, _, _, _ => by
    rw [pd, pd, dataLt_str, PL.D.lt]
    exact lt_txt a b
  | .non, .non, _, _, _ => by
    rw [pd, PL.D.lt] <;> first | rfl | (intros; contradiction)
theorem pdAll_lt : ∀ xs ys : List PL.D, PL.plainAll xs = true → PL.plainAll ys = true → PL.alikeAll xs ys = true → PyProof.Rows.lexLt itemOrd (keyToksAll (pdAll xs)) (keyToksAll (pdAll ys)) = PL.ltAll xs ys
  | [], [], _, _, _ => rfl
  | [], y :: ys, _, _, _ => by
    rw [pdAll, pdAll, keyToksAll, keyToksAll, PL.ltAll, lex_atom (by intro e; injection e with e; exact absurd e (by decide)), lex_one]
    rfl
  | x :: xs, [], _, _, _ => by
    rw [pdAll, pdAll, keyToksAll, keyToksAll, PL.ltAll, lex_atom (by intro e; injection e with e; exact absurd e (by decide)), lex_one]
    rfl
  | x :: xs, y :: ys, h1, h2, h => by
    rw [PL.plainAll, Bool.and_eq_true] at h1 h2
    rw [PL.alikeAll, Bool.and_eq_true] at h
    rw [pdAll, pdAll, PL.ltAll]
    have e := pd_eqv x y h1.1 h2.1
    cases q : x.eqv y with
    | true =>
      rw [q] at e
      rw [dataLt_all_yes (pd_alike x y h.1) e, if_pos rfl, pdAll_lt xs ys h1.2 h2.2 h.2]
    | false =>
      rw [q] at e
      rw [dataLt_all_no (pd_alike x y h.1) e, if_neg Bool.false_ne_true, pd_lt x y h1.1 h2.1 h.1]
end
section
variable {P : Program} {w : World} {K : PySem.W.Frag} {H : Hp} {Z : Addr → Prop}
mutual
theorem Rep.dp : ∀ (d : PL.D) (v : V), d.plain = true → Rep P w K H Z d v → Dp K H v (pd d)
  | .non, v, _, h => by simp only [Rep] at h; subst h; exact .non
  | .bl _, v, _, h => by simp only [Rep] at h; subst h; exact .bl _
  | .int _, v, _, h => by simp only [Rep] at h; subst h; exact .int _
  | .str _, v, _, h => by simp only [Rep] at h; subst h; exact .str _
  | .tup ds, v, p, h => by
    simp only [Rep] at h
    rw [PL.D.plain] at p
    obtain ⟨a, vs, rfl, h1, h2, h3⟩ := h
    exact .tup h1.sq (RepL.dp ds vs p h3)
  | .lst ds, v, p, h => by
    simp only [Rep] at h
    rw [PL.D.plain] at p
    obtain ⟨a, vs, rfl, _, h1, h2, h3⟩ := h
    exact .lst h1 (RepL.dp ds vs p h3)
  | .dct _, _, h, _ => by rw [PL.D.plain] at h; cases h
  | .fn _, _, h, _ => by rw [PL.D.plain] at h; cases h
theorem RepL.dp : ∀ (ds : List PL.D) (vs : List V), PL.plainAll ds = true → RepL P w K H Z ds vs → DpAll K H vs (pdAll ds)
  | [], vs, _, h => by simp only [RepL] at h; subst h; exact .nil
  | d :: ds, vs, p, h => by
    simp only [RepL] at h
    rw [PL.plainAll, Bool.and_eq_true] at p
    obtain ⟨v, r, rfl, h1, h2⟩ := h
    exact .cons (Rep.dp d v p.1 h1) (RepL.dp ds r p.2 h2)
end
theorem View.dp {d : PL.D} {v : V} (p : d.plain = true) (h : View P w K H Z d v) : Dp K H v (pd d) := by
  cases d with
  | lst ds =>
    obtain ⟨a, vs, rfl, h1, h2, h3⟩ := h
    rw [PL.D.plain] at p
    exact .lst h1 (RepL.dp ds vs p h3)
  | dct kvs => rw [PL.D.plain] at p; cases p
  | _ => exact Rep.dp (P := P) (w := w) (Z := Z) _ _ p h
end
end PLS
end

section
set_option Elab.async false
set_option linter.all false
set_option maxRecDepth 100000
set_option maxHeartbeats 4000000
/-! the soundness of P-lang: what makes tuples, with the objects known (dict(t) asks it) -/
namespace PLS
open PySem PySem.Spec PyProof.Rows L2 PySem.W
section
variable {X : Cx}
/-- a new tuple may be known -/
theorem tnew {pins : List (Addr × Obj)} {σ : St} {H : Hp} {s : Shared} {its : List Value} {vs : List V} {t' : Nat} (I : L2.Inv X pins σ H s) (r : Vals vs its) (hz : vs.length ≤ sizeLine) :
    L2.Inv X pins σ (upd H s.heap.objs.size (.frz { cls := .type "tuple", data := .seq its.toArray } (.tup vs))) { s with heap := s.heap.push { cls := .type "tuple", data := .seq its.toArray }, toks := t' } :=
  I.laid (fun b ob q => Heap.get?_push_of_some _ q) (Nat.le_refl _) ⟨Heap.get?_push_size _ rfl, hz, its, r, ⟨_, Heap.get?_push_size _ rfl, rfl, _, rfl⟩⟩
def kT (vs : List V) (H : Hp) (Q : VK) : Prop := ∀ (p : Addr) (o : Obj), H p = none → o.dict = none → Q (.ref p) (upd H p (.frz o (.tup vs)))
theorem kT.use {vs : List V} {H : Hp} {Q : VK} (q : kT vs H Q) {p : Addr} {a : Array Value} (h : H p = none) : Q (.ref p) (upd H p (.frz { cls := .type "tuple", data := .seq a } (.tup vs))) := q p _ h rfl
def tTupF (t : TA) : TE := fun σ H Q => t σ H fun xs H1 => xs.length ≤ sizeLine ∧ kT xs H1 Q
theorem pe_tupF {x1} {es : List Expr} {t : TA} {pos : Pos} (h : PA X es t) : PE X (.Tuple es x1 pos) (tTupF t) :=
  ⟨fun pins s σ H Q I hq => wpAny_Tuple_spliced (thn (h.run pos pins s σ H _ I hq) fun us s1 ⟨vs, H1, J, rv, few, q⟩ =>
    ⟨rv.length ▸ few, .ref s1.heap.objs.size, _, tnew (t' := s1.toks) J rv few, rfl, q.use (J.hok.fresh (Nat.le_refl _))⟩)⟩
def rCatF (K : PySem.W.Frag) : R2 := fun x y H Q => ∃ a b xs ys, x = .ref a ∧ y = .ref b ∧ SqT K H a xs ∧ SqT K H b ys ∧ xs.length + ys.length ≤ sizeLine ∧
  (xs = [] → Q (.ref b) H) ∧ (xs ≠ [] → ys = [] → Q (.ref a) H) ∧ kT (xs ++ ys) H Q
theorem op_catF : OpR X (binaryOp .Add) (rCatF X.K) := fun pins s σ H x y v u Q I rx ry h => by
  obtain ⟨a, b, xs, ys, rfl, rfl, sa, sb, few, q0, q1, q2⟩ := h
  obtain rfl : v = .ref a := rx
  obtain rfl : u = .ref b := ry
  obtain ⟨us, ra, ta, -⟩ := I.tuple sa
  obtain ⟨ws, rb, tb, -⟩ := I.tuple sb
  cases us with
  | nil => exact cat_tup0 ta tb ⟨.ref b, H, I, rfl, q0 (ra.nil_iff.mp rfl)⟩
  | cons u0 us =>
    have nx : xs ≠ [] := fun e => nomatch ra.nil_iff.mpr e
    refine HT.cat_tup ta tb (fun e => nomatch e) (fun e => ⟨.ref a, H, I, rfl, q1 nx (rb.nil_iff.mp e)⟩) (fun _ => ?_) (by rw [← ra.length, ← rb.length]; exact few)
    exact ⟨.ref s.heap.objs.size, _, tnew I (ra.append rb) (List.length_append ▸ few), rfl, q2.use (I.hok.fresh (Nat.le_refl _))⟩
def rSlF (K : PySem.W.Frag) : V → Option Int → Option Int → Hp → VK → Prop := fun x lo hi H Q => ∃ a xs, x = .ref a ∧ SqT K H a xs ∧
  (HT.sIx xs.length 0 lo = 0 ∧ HT.sIx xs.length xs.length hi = xs.length → Q (.ref a) H) ∧ kT (cutV xs lo hi) H Q
theorem sl_tupF : SlR X (rSlF X.K) := fun pins s σ H x v vl vu lo hi sl Q I rx hs pl pu h => by
  obtain ⟨a, xs, rfl, sq, whole, part⟩ := h
  obtain rfl : v = .ref a := rx
  obtain ⟨us, rv, tu, few⟩ := I.tuple sq
  have size : us.toArray.size = xs.length := List.size_toArray ▸ rv.length.symm
  refine ⟨_, _, slot_tuple_getitem.lookup, tu.typeIs, ?_⟩
  rcases Classical.em (HT.sIx xs.length 0 lo = 0 ∧ HT.sIx xs.length xs.length hi = xs.length) with w | w
  · exact getItem_tuple_whole tu hs pl pu (size ▸ w) ⟨.ref a, H, I, rfl, whole w⟩
  · refine HT.getItem_tuple_cut tu hs pl pu (size ▸ w) ?_ (size ▸ few)
    rw [size]
    exact ⟨.ref s.heap.objs.size, _, tnew I ((rv.drop _).take _) (Nat.le_trans (cutV_length xs lo hi) few), rfl, part.use (I.hok.fresh (Nat.le_refl _))⟩
theorem call_tuple_ofF : CallR X (.type "tuple") (fun xs H Q => ∃ p ys, xs = [.ref p] ∧ ((SqL X.K H p ys ∧ kT ys H Q) ∨ (SqT X.K H p ys ∧ Q (.ref p) H))) := fun pins s σ H xs us Q I r h => by
  obtain ⟨p, ys, rfl, h⟩ := h
  rw [Vals.ref1 r]
  rcases h with ⟨sq, q⟩ | ⟨sq, q⟩
  · obtain ⟨vs, rv, li, few⟩ := I.list sq
    have size := rv.length
    refine call_tuple_list li.isList (fun h' kp => ?_) (List.size_toArray ▸ size ▸ few)
    have J : L2.Inv X pins σ H { s with heap := h' } := I.kept (t' := s.toks) kp
    exact ⟨.ref h'.objs.size, _, tnew J rv few, rfl, q.use (J.hok.fresh (Nat.le_refl _))⟩
  · obtain ⟨vs, rv, tu, few⟩ := I.tuple sq
    exact call_tuple_same tu ⟨.ref p, H, I, rfl, q⟩
def tTupRgF (te : St → Hp → (Int → Int → Hp → Prop) → Prop) : TE := fun σ H Q => te σ H fun a b H1 => RgOk a b ∧ kT (rgV a b) H1 Q
theorem pe_tupRgF {e : Expr} {te : St → Hp → (Int → Int → Hp → Prop) → Prop} {p pos : Pos} (hc : X.calm = true) (hg : Gl X "tuple") (hm : X.mg "tuple" = none) (he : PRg X e te) (na : starEach [e] X.env = (false, eval e X.env) :: starEach [] X.env := by rfl) :
    PE X (.Call (.Name "tuple" p) [e] [] pos) (tTupRgF te) := ⟨fun pins s σ H Q I h => by
  have body := fun (x : Value) (s1 : Shared) (z : ∃ r a b t u v H', x = .ref r ∧ IsRange s1.heap r a b 1 t u v ∧ L2.Inv X pins σ H' s1 ∧ RgOk a b ∧ kT (rgV a b) H' Q) => show wpAny (model X.prog X.w) X.A (call (.type "tuple") [x]) (EP X pins σ Q) X.xe s1 from by
    obtain ⟨r, a, b, t, u, v, H1, rfl, rg, J, ⟨o1, o2, o3, o4, o5⟩, q⟩ := z
    refine call_tuple_range (J.ok.hd hc) rg (small_one o1 o2 o3 o4) (rangeSize_nat a b) o5 fun h' tk acc kp it => ?_
    have z := tnew (t' := tk) (show L2.Inv X pins σ H1 { s1 with heap := h', toks := tk } from J.kept kp) (vals_rg it) (by rw [rgV_length, sizeLine_eq]; omega)
    rw [Array.toArray_toList] at z
    exact ⟨.ref h'.objs.size, _, z, rfl, q.use ((show L2.Inv X pins σ H1 { s1 with heap := h', toks := tk } from J.kept kp).hok.fresh (Nat.le_refl _))⟩
  exact Call_ (ld_blt I hg hm boot_tuple (callWith_type1 (args_cons (thn (he pins s σ H _ I h) fun x s1 z => args_nil (body x s1 z)) na) na))⟩
/-- t * k, of some items, some times -/
theorem mul_many {its : List Value} {k : Int} (hn : its ≠ []) (lo : 2 ≤ k) (hi : k ≤ 1000) (few : its.length ≤ 1000) (l : Addr) (n : Nat) (dd : Option Addr) (sl : Array (Option Value)) (t : Tok) :
    Meets (Builtin.«tuple.__mul__» ⟨[.ref l, .int k t], []⟩) (fun _ R s => s.heap.get? l = some { cls := .type "tuple", dict := dd, data := .seq its.toArray n, slots := sl } ∧
      R (.ok (.ret (Value.ref s.heap.objs.size))) { s with heap := s.heap.push { cls := .type "tuple", data := .seq (List.replicate k.toNat its).flatten.toArray }, toks := s.toks }) := by
  have prod : (its.length : Int) * k ≤ 1000000 := Int.le_trans (Int.mul_le_mul (show (its.length : Int) ≤ 1000 by omega) hi (by omega) (by omega)) (by omega)
  have prodN : k.toNat * its.length ≤ 1000000 := Nat.le_trans (Nat.mul_le_mul (show k.toNat ≤ 1000 by omega) few) (by omega)
  have z := tuple_mulW l its.toArray n dd sl k t (by simp; omega) (by simp [hn]; omega) (by simp [hn]; omega) (by simp only [List.size_toArray]; omega)
    (by simp only [Builtin.Tuple.tupleTooMany, List.size_toArray, sizeLine_eq]; exact decide_eq_false (by omega)) (by rw [size_rep, List.size_toArray, lm_len_rep_flat, sizeLine_eq]; omega)
  rw [size_rep] at z
  exact z
def rRepF (K : PySem.W.Frag) : R2 := fun x y H Q => ∃ l k xs, x = .ref l ∧ y = .int k ∧ SqT K H l xs ∧ xs ≠ [] ∧ 2 ≤ k ∧ k ≤ 1000 ∧ xs.length ≤ 1000 ∧ kT (List.replicate k.toNat xs).flatten H Q
theorem op_repF : OpR X (binaryOp .Mult) (rRepF X.K) := fun pins s σ H x y v u Q I rx ry h => by
  obtain ⟨l, k, xs, rfl, rfl, sq, ne, lo, hi, few, q⟩ := h
  obtain rfl : v = .ref l := rx
  obtain ⟨t, rfl⟩ := ry
  obtain ⟨its, rv, ⟨⟨cl, dd, dat, sl⟩, at_l, ec, n, ed⟩, -⟩ := I.tuple sq
  obtain rfl : cl = _ := ec
  obtain rfl : dat = _ := ed
  have el := rv.length
  have isT : s.TypeIs (.ref l) "tuple" := ⟨_, at_l, rfl⟩
  refine wpAny_binaryOp_repeat_ref (by decide) isT (typeIs_int · k t) noFill_tuple_mul F.fills_int_mul F.slot_int_rmul repeat_tuple F.slot_int_index.lookup ?_
  refine call_meets F.slot_int_rmul (typeIs_int s k t) F.entry_int_rmul (F.args_int_rmul_2 _ _) (int_rmul_tuple k t l its.toArray n dd sl) ⟨at_l, rfl, isT, ?_⟩
  refine call_meets F.slot_tuple_mul isT F.entry_tuple_mul (F.args_tuple_mul_2 _ _) (mul_many (fun e => ne ?_) lo hi (by omega) l n dd sl t) ⟨at_l, ?_⟩
  · exact List.eq_nil_of_length_eq_zero (by rw [el, e]; rfl)
  · refine ⟨.ref s.heap.objs.size, _, tnew I (rv.rep k.toNat) ?_, rfl, q.use (I.hok.fresh (Nat.le_refl _))⟩
    rw [lm_len_rep_flat, sizeLine_eq]
    exact Nat.le_trans (Nat.mul_le_mul (show k.toNat ≤ 1000 by omega) few) (by omega)
theorem tuple_mul1 (l : Addr) (items : Array Value) (n : Nat) (dd : Option Addr) (sl : Array (Option Value)) (u : Tok) :
    Meets (Builtin.«tuple.__mul__» ⟨[.ref l, .int 1 u], []⟩) (fun _ R s => s.heap.get? l = some { cls := .type "tuple", dict := dd, data := .seq items n, slots := sl } ∧
      R (.ok (.ret (Value.ref l))) s) :=
  .of_wp fun prog w A R s h => by
    obtain ⟨hp, g, d, tk, os⟩ := s
    obtain ⟨hl, h⟩ := h
    have f1 := AutoSeq1.idx_int
    have c0 : (decide ((1 : Int) < -(2 ^ 63)) || decide ((1 : Int) ≥ 2 ^ 63)) = false := by decide
    wp_walk using wpAny_loadPart' hl
    repeat (first
      | (refine wpAny_ite_false (decide_eq_false (by rw [c0]; exact Bool.false_ne_true)) ?_; wp_walk using wpAny_loadPart' hl))
    exact ⟨_, rfl, h⟩
theorem op_rep1 : OpR X (binaryOp .Mult) (fun x y H Q => ∃ l xs, x = .ref l ∧ y = .int 1 ∧ SqT X.K H l xs ∧ Q (.ref l) H) := fun pins s σ H x y v u Q I rx ry h => by
  obtain ⟨l, xs, rfl, rfl, sq, q⟩ := h
  obtain rfl : v = .ref l := rx
  obtain ⟨t, rfl⟩ := ry
  obtain ⟨its, rv, ⟨⟨cl, dd, dat, sl⟩, at_l, ec, n, ed⟩, -⟩ := I.tuple sq
  obtain rfl : cl = _ := ec
  obtain rfl : dat = _ := ed
  have isT : s.TypeIs (.ref l) "tuple" := ⟨_, at_l, rfl⟩
  refine wpAny_binaryOp_repeat_ref (by decide) isT (typeIs_int · 1 t) noFill_tuple_mul F.fills_int_mul F.slot_int_rmul repeat_tuple F.slot_int_index.lookup ?_
  refine call_meets F.slot_int_rmul (typeIs_int s 1 t) F.entry_int_rmul (F.args_int_rmul_2 _ _) (int_rmul_tuple 1 t l its.toArray n dd sl) ⟨at_l, rfl, isT, ?_⟩
  exact call_meets F.slot_tuple_mul isT F.entry_tuple_mul (F.args_tuple_mul_2 _ _) (tuple_mul1 l its.toArray n dd sl t) ⟨at_l, .ref l, H, I, rfl, q⟩
end
end PLS
end

section
set_option Elab.async false
set_option linter.all false
set_option maxRecDepth 100000
set_option maxHeartbeats 4000000
/-! the soundness of P-lang: operators by values -/
namespace PLS
open PySem PySem.Spec PyProof.Rows L2 PySem.W
structure GX (G : GS) (X : Cx) : Prop where
  p : G.P = X.prog
  w : G.w = X.w
  k : G.K = X.K
  u : X.A.units + 100 < cLine
section
variable (G : GS)
/-- a result by values, in a heap that has grown from H -/
def ResA (H H' : Hp) (Z : Addr → Prop) : PL.AV → V → Prop
  | .v d, v => G.R H' Z d v
  | .f x, v => ∃ a : Addr, v = .ref a ∧ H a = none ∧ G.O H' Z x a
  | _, _ => False
def r1D (k : PL.D → Option PL.AV) : V → Hp → VK → Prop := fun x H Q => ∃ Z d z, (∀ a, Z a → ∃ o, H a = some o) ∧ G.Vw H Z d x ∧ k d = some z ∧ ∀ v H', (∀ a o, H a = some o → H' a = some o) → ResA G H H' Z z v → Q v H'
def r2D (k : PL.D → PL.D → Option PL.AV) : R2 := fun x y H Q => ∃ Z dx dy z, (∀ a, Z a → ∃ o, H a = some o) ∧ G.Vw H Z dx x ∧ G.Vw H Z dy y ∧ k dx dy = some z ∧ ∀ v H', (∀ a o, H a = some o → H' a = some o) → ResA G H H' Z z v → Q v H'
end
section
variable {G : GS} {H H1 H2 H' H₀ : Hp} {Z Z1 Z2 Z' : Addr → Prop} {σ σ1 σ2 σ' : St} {ρ ρ1 ρ2 ρ' : PL.Env} {W : WX} {X : Cx}
theorem ResA.repA (s : Step G H₀ Z1 σ ρ1 H Z σ ρ) (h : ResA G H H' Z z v) : RepA G H₀ H' Z σ ρ z v := by
  cases z with
  | v d => exact h
  | f x =>
    obtain ⟨a, e, n, r⟩ := h
    refine ⟨a, e, s.live a n, fun z => ?_, fun z => ?_, r⟩
    · obtain ⟨o, ho⟩ := s.env.zin a z
      rw [n] at ho; cases ho
    · obtain ⟨_, o, ho, _⟩ := s.env.ownZ z
      rw [n] at ho; cases ho
  | r i => exact h.elim
  | p i x => exact h.elim
theorem ev1_r {ra : PL.Ev PL.AV} {k : PL.D → Option PL.AV} {Q : VK} (h : tE G W (PL.ev1 ra k) σ H Q) : tUn (r1D G k) (tE G W ra) σ H Q := by
  obtain ⟨Z, ρ, I, o⟩ := h
  refine ⟨Z, ρ, I, o.bind.mono fun av ρ1 o1 v H1 Z1 s1 r1 => ?_⟩
  obtain ⟨d, ed, o2⟩ := o1.ofO
  obtain ⟨z, ez, o3⟩ := o2.ofO
  exact ⟨Z1, d, z, s1.env.zin, look_view s1.env r1 ed, ez, fun v' H' g r => o3 v' H' Z1 (s1.trans (s1.env.grow g)) (RepA.from (fun _ h => h) (by
    have := ResA.repA s1 r
    exact this))⟩
theorem ev2_r {ra rb : PL.Ev PL.AV} {k : PL.D → PL.D → Option PL.AV} {Q : VK} (h : tE G W (PL.ev2 ra rb k) σ H Q) : tOp (r2D G k) (tE G W ra) (tE G W rb) σ H Q := by
  obtain ⟨Z, ρ, I, o⟩ := h
  refine ⟨Z, ρ, I, o.bind.mono fun av ρ1 o1 v H1 Z1 s1 r1 => ?_⟩
  refine ⟨Z1, ρ1, s1.env, (o1.bind.at s1).mono fun bv ρ2 o2 u H2 Z2 s2 r2 => ?_⟩
  obtain ⟨dx, ex, o3⟩ := o2.ofO
  obtain ⟨dy, ey, o4⟩ := o3.ofO
  obtain ⟨z, ez, o5⟩ := o4.ofO
  exact ⟨Z2, dx, dy, z, s2.env.zin, look_view s2.env (r1.step s1.env s2) ex, look_view s2.env r2 ey, ez, fun v' H' g r => o5 v' H' Z2 ((s1.trans s2).trans (s2.env.grow g)) (ResA.repA (s1.trans s2) r)⟩
end

/-! ### intsD -/
section
variable {G : GS} {X : Cx}
theorem str_len (x : PL.Txt) : (⟨x.toArray⟩ : Str).length = x.length := by simp [Str.length]
theorem str_app (x y : PL.Txt) : ((⟨x.toArray⟩ : Str) ++ (⟨y.toArray⟩ : Str)) = ⟨(x ++ y).toArray⟩ := by
  show (⟨x.toArray ++ y.toArray⟩ : Str) = _
  simp
theorem vw_int {H : Hp} {Z : Addr → Prop} {i : Int} {v : V} (h : G.Vw H Z (.int i) v) : v = .int i := by
  have h : G.R H Z (.int i) v := h
  simpa only [GS.R, Rep] using h
theorem vw_bl {H : Hp} {Z : Addr → Prop} {i : Bool} {v : V} (h : G.Vw H Z (.bl i) v) : v = .bl i := by
  have h : G.R H Z (.bl i) v := h
  simpa only [GS.R, Rep] using h
theorem vw_str {H : Hp} {Z : Addr → Prop} {i : PL.Txt} {v : V} (h : G.Vw H Z (.str i) v) : v = .str ⟨i.toArray⟩ := by
  have h : G.R H Z (.str i) v := h
  simpa only [GS.R, Rep] using h
theorem vw_non {H : Hp} {Z : Addr → Prop} {v : V} (h : G.Vw H Z .non v) : v = .non := by
  have h : G.R H Z .non v := h
  simpa only [GS.R, Rep] using h
theorem vw_tup {H : Hp} {Z : Addr → Prop} {ds : List PL.D} {v : V} (h : G.Vw H Z (.tup ds) v) : ∃ (a : Addr) (vs : List V), v = .ref a ∧ PlT H a vs ∧ vs.length ≤ sizeLine ∧ G.RL H Z ds vs := by
  have h : G.R H Z (.tup ds) v := h
  simpa only [GS.R, Rep] using h
theorem vw_lst {H : Hp} {Z : Addr → Prop} {ds : List PL.D} {v : V} (h : G.Vw H Z (.lst ds) v) : ∃ (a : Addr) (vs : List V), v = .ref a ∧ SqL G.K H a vs ∧ vs.length ≤ sizeLine ∧ G.RL H Z ds vs := h
theorem r_int {H : Hp} {Z : Addr → Prop} {i : Int} : G.R H Z (.int i) (.int i) := by simp only [GS.R, Rep]
theorem r_bl {H : Hp} {Z : Addr → Prop} {i : Bool} : G.R H Z (.bl i) (.bl i) := by simp only [GS.R, Rep]
theorem r_str {H : Hp} {Z : Addr → Prop} {i : PL.Txt} : G.R H Z (.str i) (.str ⟨i.toArray⟩) := by simp only [GS.R, Rep]
theorem r_non {H : Hp} {Z : Addr → Prop} : G.R H Z .non .non := by simp only [GS.R, Rep]
theorem r_tup {H : Hp} {Z : Addr → Prop} {ds : List PL.D} {a : Addr} {vs : List V} (h : PlT H a vs) (hl : vs.length ≤ sizeLine) (r : G.RL H Z ds vs) : G.R H Z (.tup ds) (.ref a) := by
  simp only [GS.R, Rep]
  exact ⟨a, vs, rfl, h, hl, r⟩
theorem line_eq : PL.lineN = sizeLine := by rw [sizeLine_eq]; rfl
theorem upd_grow {H : Hp} {p : Addr} {o : HO} (n : H p = none) : ∀ a u, H a = some u → upd H p o a = some u := fun a u h => by rw [upd_ne (ne_of_none h n)]; exact h
theorem ext_upd {H : Hp} {p : Addr} {o : HO} {Z : Addr → Prop} (n : H p = none) : Ext H Z (upd H p o) Z := ⟨fun _ h => h, fun a u h _ _ => upd_grow n a u h, fun a xs h => upd_grow n _ _ h, fun a u v h => upd_grow n _ _ h⟩
/-- a new tuple, a new list -/
theorem res_tup {H : Hp} {vs : List V} {ds : List PL.D} {Z : Addr → Prop} {Q : VK} (hl : vs.length ≤ sizeLine) (r : G.RL H Z ds vs) (q : ∀ v H', (∀ a o, H a = some o → H' a = some o) → ResA G H H' Z (.v (.tup ds)) v → Q v H') : kT vs H Q := fun p o n d =>
  q _ _ (upd_grow n) (r_tup ⟨o, upd_same, d⟩ hl (RepL.ext (ext_upd n) _ _ r))
theorem res_lst {H : Hp} {p : Addr} {vs : List V} {ds : List PL.D} {Z : Addr → Prop} (n : H p = none) (hl : vs.length ≤ sizeLine) (r : G.RL H Z ds vs) : ResA G H (upd H p (.lst vs)) Z (.f (.l ds)) (.ref p) :=
  ⟨p, rfl, n, vs, upd_same, hl, RepL.ext (ext_upd n) _ _ r⟩
theorem all_keep {H : Hp} : ∀ a u, H a = some u → H a = some u := fun _ _ h => h


theorem OpR.pick {f : Value → Value → Sem Value} {r' : R2} (h : ∀ x y H Q, r' x y H Q → ∃ r, OpR X f r ∧ r x y H Q) : OpR X f r' := fun pins s σ H x y v u Q I rx ry q => (h x y H Q q).elim fun _ a => a.1 pins s σ H x y v u Q I rx ry a.2
theorem q_int {H : Hp} {Z : Addr → Prop} {i : Int} {Q : VK} (q : ∀ v H', (∀ a o, H a = some o → H' a = some o) → ResA G H H' Z (.v (.int i)) v → Q v H') : Q (.int i) H := q _ _ all_keep (r_int (G := G) (H := H) (Z := Z))
theorem q_bl {H : Hp} {Z : Addr → Prop} {i : Bool} {Q : VK} (q : ∀ v H', (∀ a o, H a = some o → H' a = some o) → ResA G H H' Z (.v (.bl i)) v → Q v H') : Q (.bl i) H := q _ _ all_keep (r_bl (G := G) (H := H) (Z := Z))
theorem q_str {H : Hp} {Z : Addr → Prop} {i : PL.Txt} {Q : VK} (q : ∀ v H', (∀ a o, H a = some o → H' a = some o) → ResA G H H' Z (.v (.str i)) v → Q v H') : Q (.str ⟨i.toArray⟩) H := q _ _ all_keep (r_str (G := G) (H := H) (Z := Z))
theorem q_non {H : Hp} {Z : Addr → Prop} {Q : VK} (q : ∀ v H', (∀ a o, H a = some o → H' a = some o) → ResA G H H' Z (.v .non) v → Q v H') : Q .non H := q _ _ all_keep (r_non (G := G) (H := H) (Z := Z))
def bop : PL.Bin → Operator
  | .add => .Add
  | .sub => .Sub
  | .mul => .Mult
  | .mod => .Mod
  | .fdiv => .FloorDiv
  | .pow => .Pow
def rCatG (K : PySem.W.Frag) : R2 := fun x y H Q => ∃ l b xs zs, x = .ref l ∧ y = .ref b ∧ SqL K H l xs ∧ SqL K H b zs ∧ xs.length + zs.length ≤ sizeLine ∧ ∀ p, H p = none → Q (.ref p) (upd H p (.lst (xs ++ zs)))
theorem op_catG : OpR X (binaryOp .Add) (rCatG X.K) := fun pins s σ H x y v u Q I rx ry h => by
  obtain ⟨l, b, xs, zs, rfl, rfl, sl, sb, few, q⟩ := h
  obtain rfl : v = .ref l := rx
  obtain rfl : u = .ref b := ry
  obtain ⟨us, ru, ⟨⟨c1, d1, t1, k1⟩, n1, o1, ec1, ed1, et1⟩, -⟩ := I.list sl
  obtain ⟨ws, rw', ⟨⟨c2, d2, t2, k2⟩, n2, o2, ec2, ed2, et2⟩, -⟩ := I.list sb
  obtain rfl : c1 = _ := ec1
  obtain rfl : d1 = _ := ed1
  obtain rfl : t1 = _ := et1
  obtain rfl : c2 = _ := ec2
  obtain rfl : d2 = _ := ed2
  obtain rfl : t2 = _ := et2
  have e1 := ru.length
  have e2 := rw'.length
  have size : us.toArray.size + ws.toArray.size ≤ sizeLine := by rw [List.size_toArray, List.size_toArray, ← e1, ← e2]; exact few
  refine concat_meets ⟨_, o1, rfl⟩ ⟨_, o2, rfl⟩ noFill_list_add seq_list_add PySem.F.slot_list_add PySem.F.entry_list_add (PySem.F.args_list_add_2 _ _) (list_addW l b us.toArray ws.toArray n1 n2 none none k1 k2 size) ⟨o1, o2, ?_⟩
  rw [List.append_toArray]
  exact ⟨.ref s.heap.objs.size, _, I.lnew (ru.append rw') (List.length_append ▸ few), rfl, q _ I.fresh⟩
theorem mulOk_ok {i j : Int} (h : PL.mulOk i j = true) : CMulW i j := by
  unfold PL.mulOk at h
  rw [Bool.and_eq_true, decide_eq_true_eq, decide_eq_true_eq] at h
  exact wide_mul h.1 h.2 (by decide) (by decide) (by decide)


theorem if_some {α : Type} {c : Prop} [Decidable c] {a z : α} (h : (if c then some a else none) = some z) : c ∧ a = z := by
  split at h
  · rename_i hc; exact ⟨hc, Option.some.inj h⟩
  · cases h
section
variable (hg : GX G X)
include hg
theorem ob_add : OpR X (binaryOp .Add) (r2D G PL.addD) := OpR.pick fun x y H Q h => by
  obtain ⟨Z, dx, dy, z, zin, hx, hy, ez, q⟩ := h
  cases dx <;> cases dy <;> (first | (cases ez; done) | skip)
  case int.int i j =>
    cases ez
    cases vw_int hx; cases vw_int hy
    exact ⟨_, op_add, i, j, rfl, rfl, q_int q⟩
  case str.str i j =>
    cases vw_str hx; cases vw_str hy
    obtain ⟨hl, rfl⟩ := if_some ez
    exact ⟨_, op_add_str, _, _, rfl, rfl, by rw [str_len, str_len, ← line_eq]; exact hl, by rw [str_app]; exact q_str q⟩
  case tup.tup xs ys =>
    obtain ⟨a, vs, rfl, h1, l1, r1⟩ := vw_tup hx
    obtain ⟨b, ws, rfl, h2, l2, r2⟩ := vw_tup hy
    obtain ⟨hl, rfl⟩ := if_some ez
    have hl' : vs.length + ws.length ≤ sizeLine := by rw [← r1.length, ← r2.length, ← line_eq]; exact hl
    refine ⟨_, op_catF, a, b, vs, ws, rfl, rfl, h1.sq, h2.sq, hl', fun e => ?_, fun e e' => ?_, res_tup (by rw [List.length_append]; exact hl') (r1.append r2) q⟩
    · have e2 : xs = [] := List.eq_nil_of_length_eq_zero (by rw [r1.length, e]; rfl)
      subst e2
      exact q _ _ all_keep (r_tup h2 l2 r2)
    · have e2 : ys = [] := List.eq_nil_of_length_eq_zero (by rw [r2.length, e']; rfl)
      subst e2
      rw [List.append_nil] at q
      exact q _ _ all_keep (r_tup h1 l1 r1)
  case lst.lst xs ys =>
    obtain ⟨a, vs, rfl, h1, l1, r1⟩ := vw_lst hx
    obtain ⟨b, ws, rfl, h2, l2, r2⟩ := vw_lst hy
    obtain ⟨hl, rfl⟩ := if_some ez
    have hl' : vs.length + ws.length ≤ sizeLine := by rw [← r1.length, ← r2.length, ← line_eq]; exact hl
    rw [hg.k] at h1 h2
    exact ⟨_, op_catG, a, b, vs, ws, rfl, rfl, h1, h2, hl', fun p n => q _ _ (upd_grow n) (res_lst n (by rw [List.length_append]; exact hl') (r1.append r2))⟩
theorem ob_sub : OpR X (binaryOp .Sub) (r2D G PL.subtD) := OpR.pick fun x y H Q h => by
  obtain ⟨Z, dx, dy, z, zin, hx, hy, ez, q⟩ := h
  cases dx <;> cases dy <;> (first | (cases ez; done) | skip)
  cases ez
  cases vw_int hx; cases vw_int hy
  exact ⟨_, op_sub, _, _, rfl, rfl, q_int q⟩
theorem ob_mod : OpR X (binaryOp .Mod) (r2D G PL.modD) := OpR.pick fun x y H Q h => by
  obtain ⟨Z, dx, dy, z, zin, hx, hy, ez, q⟩ := h
  cases dx <;> cases dy <;> (first | (cases ez; done) | skip)
  cases vw_int hx; cases vw_int hy
  obtain ⟨hj, rfl⟩ := if_some ez
  exact ⟨_, op_mod, _, _, rfl, rfl, hj, q_int q⟩
theorem ob_fdiv : OpR X (binaryOp .FloorDiv) (r2D G PL.fdivD) := OpR.pick fun x y H Q h => by
  obtain ⟨Z, dx, dy, z, zin, hx, hy, ez, q⟩ := h
  cases dx <;> cases dy <;> (first | (cases ez; done) | skip)
  cases vw_int hx; cases vw_int hy
  obtain ⟨hj, rfl⟩ := if_some ez
  exact ⟨_, op_fdivW, _, _, rfl, rfl, wide_div hj.1 hj.2 (by decide) (by decide), q_int q⟩
theorem ob_pow : OpR X (binaryOp .Pow) (r2D G PL.powD) := OpR.pick fun x y H Q h => by
  obtain ⟨Z, dx, dy, z, zin, hx, hy, ez, q⟩ := h
  cases dx <;> cases dy <;> (first | (cases ez; done) | skip)
  cases vw_int hx; cases vw_int hy
  obtain ⟨hj, rfl⟩ := if_some ez
  exact ⟨_, op_pow, _, _, rfl, rfl, ⟨hj.1, by omega, by omega⟩, q_int q⟩
omit hg in
theorem mulD_int {i j : Int} {z : PL.AV} (h : PL.mulD (.int i) (.int j) = some z) : PL.mulOk i j = true ∧ PL.AV.v (.int (i * j)) = z := by
  rw [PL.mulD] at h
  generalize PL.mulOk i j = b at h ⊢
  cases b
  · cases h
  · exact ⟨rfl, Option.some.inj h⟩
theorem ob_mul : OpR X (binaryOp .Mult) (r2D G PL.mulD) := OpR.pick fun x y H Q h => by
  obtain ⟨Z, dx, dy, z, zin, hx, hy, ez, q⟩ := h
  cases dx <;> cases dy <;> (first | (cases ez; done) | skip)
  case int.int i j =>
    cases vw_int hx; cases vw_int hy
    obtain ⟨hj, rfl⟩ := mulD_int ez
    exact ⟨_, op_mulW, _, _, rfl, rfl, mulOk_ok hj, q_int q⟩
  case tup.int xs k =>
    obtain ⟨a, vs, rfl, h1, l1, r1⟩ := vw_tup hx
    cases vw_int hy
    obtain ⟨hj, rfl⟩ := if_some ez
    have el := r1.length
    by_cases hk : k = 1
    · subst hk
      refine ⟨_, op_rep1, a, vs, rfl, rfl, h1.sq, q _ _ all_keep (r_tup h1 l1 ?_)⟩
      show G.RL H Z (List.replicate 1 xs).flatten vs
      rw [List.replicate_one, List.flatten_singleton]
      exact r1
    · refine ⟨_, op_repF, a, k, vs, rfl, rfl, h1.sq, fun e => hj.1 (List.eq_nil_of_length_eq_zero (by rw [el, e]; rfl)), by omega, hj.2.2.1, by omega, res_tup ?_ (r1.rep _) q⟩
      rw [List.length_flatten, List.map_replicate, List.sum_replicate_nat, ← line_eq]
      have : k.toNat * vs.length ≤ 1000 * 1000 := Nat.mul_le_mul (by omega) (by omega)
      unfold PL.lineN
      omega
theorem ob_bin (op : PL.Bin) : OpR X (binaryOp (bop op)) (r2D G (PL.binD op)) := by
  cases op
  · exact ob_add hg
  · exact ob_sub hg
  · exact ob_mul hg
  · exact ob_mod hg
  · exact ob_fdiv hg
  · exact ob_pow hg
end
end
end PLS
end

section
set_option Elab.async false
set_option linter.all false
set_option maxRecDepth 100000
set_option maxHeartbeats 4000000
/-! the soundness of P-lang: comparisons -/
namespace PLS
open PySem PySem.Spec PyProof.Rows L2 PySem.W
def cop : PL.Cmp → CmpOp
  | .eq => .Eq
  | .ne => .NotEq
  | .lt => .Lt
  | .le => .LtE
  | .gt => .Gt
  | .ge => .GtE
  | .isin => .In
  | .notin => .NotIn
  | .is => .Is
  | .isnot => .IsNot
section
variable (G : GS)
def r2C (k : PL.D → PL.D → Option Bool) : R2 := fun x y H Q => ∃ Z dx dy b, (∀ a, Z a → ∃ o, H a = some o) ∧ G.Vw H Z dx x ∧ G.Vw H Z dy y ∧ k dx dy = some b ∧ Q (.bl b) H
end
section
variable {G : GS} {X : Cx} {H : Hp} {Z : Addr → Prop}
theorem r2C_of {k : PL.D → PL.D → Option Bool} {x y : V} {Q : VK} (h : r2D G (fun a b => (k a b).map fun z => .v (.bl z)) x y H Q) : r2C G k x y H Q := by
  obtain ⟨Z, dx, dy, z, zin, hx, hy, ez, q⟩ := h
  dsimp only at ez
  cases e : k dx dy with
  | none => rw [e] at ez; cases ez
  | some b =>
    rw [e] at ez
    cases ez
    exact ⟨Z, dx, dy, b, zin, hx, hy, e, q_bl q⟩
theorem OpR.direct {f : Value → Value → Sem Value} {k : PL.D → PL.D → Option Bool}
    (h : ∀ {pins : List (Addr × Obj)} {s : Shared} {σ : St} {H : Hp} {Z : Addr → Prop} {x y : V} {v u : Value} {dx dy : PL.D} {b : Bool} {Q : Value → Shared → Prop}, L2.Inv X pins σ H s → RelV x v → RelV y u → G.Vw H Z dx x → G.Vw H Z dy y → k dx dy = some b → (∀ n, Q (.bool b) { s with toks := n }) → wpAny (model X.prog X.w) X.A (f v u) Q X.xe s) : OpR X f (r2C G k) := by
  intro pins s σ H x y v u Q I rx ry hh
  obtain ⟨Z, dx, dy, b, zin, hx, hy, e, q⟩ := hh
  exact h I rx ry hx hy e fun n => ⟨.bl b, H, I.tok n, rfl, q⟩
theorem reads (hg : GX G X) {pins : List (Addr × Obj)} {s : Shared} {σ : St} {x : V} {v : Value} {d : PL.D} (I : L2.Inv X pins σ H s) (r : RelV x v) (p : d.plain = true) (h : G.Vw H Z d x) : ∃ as, Reads s.heap v (pd d) as := by
  obtain ⟨P, w, K, T, LA, IO, nl, nt, nd⟩ := G
  obtain ⟨rfl, rfl, rfl, _⟩ := hg
  exact Dp.reads I _ _ _ (View.dp p h) r
variable (hg : GX G X)
include hg
theorem oc_eq : OpR X (compareOp .Eq) (r2C G PL.eqX) := OpR.direct fun {_ s _ _ _ _ _ _ _ dx dy b Q} I rx ry hx hy e q => by
  replace q := q s.toks
  unfold PL.eqX PL.eqD at e
  obtain ⟨c, rfl⟩ := if_some e
  simp only [Bool.and_eq_true, decide_eq_true_eq] at c
  obtain ⟨as, ra⟩ := reads hg I rx c.1.1.1 hx
  obtain ⟨bs, rb⟩ := reads hg I ry c.1.1.2 hy
  refine PySem.SeqAt.eq_plain ra rb (pd_plain _ c.1.1.1) (pd_plain _ c.1.1.2) ?_ (by rw [pd_eqv _ _ c.1.1.1 c.1.1.2]; exact q)
  have := hg.u
  rw [pd_depth, pd_depth]
  omega
theorem oc_ne : OpR X (compareOp .NotEq) (r2C G fun a b => (PL.eqX a b).map (!·)) := OpR.direct fun {_ s _ _ _ _ _ _ _ dx dy b Q} I rx ry hx hy e q => by
  replace q := q s.toks
  unfold PL.eqX PL.eqD at e
  split at e <;> cases e
  rename_i c
  simp only [Bool.and_eq_true, decide_eq_true_eq] at c
  obtain ⟨as, ra⟩ := reads hg I rx c.1.1.1 hx
  obtain ⟨bs, rb⟩ := reads hg I ry c.1.1.2 hy
  refine PySem.SeqAt.ne_plain ra rb (pd_plain _ c.1.1.1) (pd_plain _ c.1.1.2) ?_ (by rw [pd_eqv _ _ c.1.1.1 c.1.1.2]; exact q)
  have := hg.u
  rw [pd_depth, pd_depth]
  omega
theorem oc_lt : OpR X (compareOp .Lt) (r2C G PL.ltD) := OpR.direct fun {_ s _ _ _ x y v u dx dy b Q} I rx ry hx hy e q => by
  replace q := q s.toks
  unfold PL.ltD at e
  split at e
  · cases e
    cases vw_int hx; cases vw_int hy
    obtain ⟨t, rfl⟩ := rx
    obtain ⟨t', rfl⟩ := ry
    exact lt_int q
  · rename_i xs ys
    obtain ⟨c, rfl⟩ := if_some e
    simp only [Bool.and_eq_true, decide_eq_true_eq] at c
    have p1 : (PL.D.tup xs).plain = true := by rw [PL.D.plain]; exact c.1.1.1.2
    have p2 : (PL.D.tup ys).plain = true := by rw [PL.D.plain]; exact c.1.1.2
    have al : (PL.D.tup xs).alike (.tup ys) = true := by rw [PL.D.alike]; exact c.1.1.1.1
    obtain ⟨as, ra⟩ := reads hg I rx p1 hx
    obtain ⟨bs, rb⟩ := reads hg I ry p2 hy
    refine lt_data ra rb (pd_alike _ _ al) (by rw [pd]; intro z; cases z) ?_ (by rw [pd_lt _ _ p1 p2 al, PL.D.lt]; exact q)
    have := hg.u
    rw [pd_depth, pd_depth, PL.D.depth, PL.D.depth]
    omega
  · cases e
theorem oc_ge : OpR X (compareOp .GtE) (r2C G PL.geX) := OpR.direct fun {_ s _ _ _ x y v u dx dy b Q} I rx ry hx hy e q => by
  replace q := q s.toks
  unfold PL.geX at e
  split at e
  · cases e
    cases vw_int hx; cases vw_int hy
    obtain ⟨t, rfl⟩ := rx
    obtain ⟨t', rfl⟩ := ry
    exact ge_int q
  · rename_i xs ys
    unfold PL.ltD at e
    dsimp only at e
    split at e <;> cases e
    rename_i c
    simp only [Bool.and_eq_true, decide_eq_true_eq] at c
    have p1 : (PL.D.tup xs).plain = true := by rw [PL.D.plain]; exact c.1.1.1.2
    have p2 : (PL.D.tup ys).plain = true := by rw [PL.D.plain]; exact c.1.1.2
    have al : (PL.D.tup xs).alike (.tup ys) = true := by rw [PL.D.alike]; exact c.1.1.1.1
    obtain ⟨as, ra⟩ := reads hg I rx p1 hx
    obtain ⟨bs, rb⟩ := reads hg I ry p2 hy
    refine ge_data ra rb (pd_alike _ _ al) (by rw [pd]; intro z; cases z) ?_ (by rw [pd_lt _ _ p1 p2 al, PL.D.lt]; exact q)
    have := hg.u
    rw [pd_depth, pd_depth, PL.D.depth, PL.D.depth]
    omega
  · cases e
theorem oc_le : OpR X (compareOp .LtE) (r2C G PL.leX) := OpR.pick fun x y H Q h => by
  obtain ⟨Z, dx, dy, z, zin, hx, hy, ez, q⟩ := h
  cases dx <;> cases dy <;> (first | (cases ez; done) | skip)
  cases ez
  cases vw_int hx; cases vw_int hy
  exact ⟨_, op_le, _, _, rfl, rfl, q⟩
theorem oc_gt : OpR X (compareOp .Gt) (r2C G PL.gtX) := OpR.pick fun x y H Q h => by
  obtain ⟨Z, dx, dy, z, zin, hx, hy, ez, q⟩ := h
  cases dx <;> cases dy <;> (first | (cases ez; done) | skip)
  cases ez
  cases vw_int hx; cases vw_int hy
  exact ⟨_, op_gt1, _, _, rfl, rfl, q⟩
def isN : PL.D → Bool
  | .non => true
  | _ => false
theorem vw_ne_non {d : PL.D} {v : V} (h : G.Vw H Z d v) (n : d ≠ .non) : v ≠ .non := by
  cases d with
  | non => exact absurd rfl n
  | bl b => cases vw_bl h; intro e; cases e
  | int b => cases vw_int h; intro e; cases e
  | str b => cases vw_str h; intro e; cases e
  | tup b => obtain ⟨a, vs, rfl, _⟩ := vw_tup h; intro e; cases e
  | lst b => obtain ⟨a, vs, rfl, _⟩ := h; intro e; cases e
  | dct b => obtain ⟨a, vs, rfl, _⟩ := h; intro e; cases e
  | fn b =>
    have h : G.R H Z (.fn b) v := h
    simp only [GS.R, Rep] at h
    subst h
    intro e; cases e
omit hg in
theorem isn_eq (d : PL.D) : PL.isX d .non = some (isN d) := by cases d <;> rfl
theorem is_non {d : PL.D} {v : V} (h : G.Vw H Z d v) : decide (v = .non) = isN d := by
  cases d with
  | non => cases vw_non h; rfl
  | _ => exact decide_eq_false (vw_ne_non hg h (by intro e; cases e))
theorem oc_is : OpR X (compareOp .Is) (r2C G PL.isX) := OpR.pick fun x y H Q h => by
  obtain ⟨Z, dx, dy, z, zin, hx, hy, ez, q⟩ := h
  cases dy <;> (first | (cases ez; done) | skip)
  case non =>
    rw [isn_eq] at ez
    cases ez
    refine ⟨_, op_isN1, vw_non hy, ?_⟩
    rw [is_non hg hx]
    exact q
  case bl c =>
    cases dx <;> (first | (cases ez; done) | skip)
    cases ez
    cases vw_bl hx; cases vw_bl hy
    rename_i b
    refine ⟨_, op_is_bl, _, _, rfl, rfl, ?_⟩
    have : decide (b = c) = (c == b) := by cases b <;> cases c <;> rfl
    rw [this]
    exact q
theorem oc_isnot : OpR X (compareOp .IsNot) (r2C G fun a b => (PL.isX a b).map (!·)) := OpR.pick fun x y H Q h => by
  obtain ⟨Z, dx, dy, z, zin, hx, hy, ez, q⟩ := h
  cases dy <;> (first | (cases ez; done) | skip)
  case non =>
    dsimp only at ez
    rw [isn_eq] at ez
    cases ez
    refine ⟨_, op_notN1, vw_non hy, ?_⟩
    rw [is_non hg hx]
    exact q
  case bl c =>
    cases dx <;> (first | (cases ez; done) | skip)
    cases ez
    cases vw_bl hx; cases vw_bl hy
    rename_i b
    refine ⟨_, op_isnot_bl, _, _, rfl, rfl, ?_⟩
    have : (!decide (b = c)) = !(c == b) := by cases b <;> cases c <;> rfl
    rw [this]
    exact q
end
end PLS
end

section
set_option Elab.async false
set_option linter.all false
set_option maxRecDepth 100000
set_option maxHeartbeats 4000000
/-! the soundness of P-lang: keys and dicts -/
namespace PLS
open PySem PySem.Spec PyProof.Rows L2 PySem.W
mutual
theorem nk_depth : ∀ k : PL.D, k.keyable = true → (nk k).depth = k.depth
  | .non, _ => rfl
  | .int _, _ => rfl
  | .str _, _ => rfl
  | .tup xs, h => by
    rw [PL.D.keyable] at h
    rw [nk, NestedKey.depth, PL.D.depth, nkAll_depth xs h]
theorem nkAll_depth : ∀ xs : List PL.D, PL.keyableAll xs = true → NestedKey.depthAll (nkAll xs) = PL.depthAll xs
  | [], _ => rfl
  | x :: xs, h => by
    rw [PL.keyableAll, Bool.and_eq_true] at h
    rw [nkAll, NestedKey.depthAll, PL.depthAll, nk_depth x h.1, nkAll_depth xs h.2]
end
mutual
theorem same_nk : ∀ a b : PL.D, a.keyable = true → b.keyable = true → (a.same b = true ↔ nk a = nk b)
  | .non, .non, _, _ => by simp [PL.D.same, nk]
  | .int i, .int j, _, _ => by simp [PL.D.same, nk]
  | .str x, .str y, _, _ => by simp [PL.D.same, nk]
  | .tup xs, .tup ys, h, h' => by
    rw [PL.D.keyable] at h h'
    rw [PL.D.same, nk, nk, NestedKey.tup.injEq]
    exact sameAll_nk xs ys h h'
  | .non, .int _, _, _ | .non, .str _, _, _ | .non, .tup _, _, _ => by simp [PL.D.same, nk]
  | .int _, .non, _, _ | .int _, .str _, _, _ | .int _, .tup _, _, _ => by simp [PL.D.same, nk]
  | .str _, .non, _, _ | .str _, .int _, _, _ | .str _, .tup _, _, _ => by simp [PL.D.same, nk]
  | .tup _, .non, _, _ | .tup _, .int _, _, _ | .tup _, .str _, _, _ => by simp [PL.D.same, nk]
  | .bl _, _, h, _ | .lst _, _, h, _ | .dct _, _, h, _ | .fn _, _, h, _ => by rw [PL.D.keyable] at h <;> first | cases h | (intros; contradiction)
  | _, .bl _, _, h | _, .lst _, _, h | _, .dct _, _, h | _, .fn _, _, h => by rw [PL.D.keyable] at h <;> first | cases h | (intros; contradiction)
theorem sameAll_nk : ∀ xs ys : List PL.D, PL.keyableAll xs = true → PL.keyableAll ys = true → (PL.sameAll xs ys = true ↔ nkAll xs = nkAll ys)
  | [], [], _, _ => by simp [PL.sameAll, nkAll]
  | [], _ :: _, _, _ => by simp [PL.sameAll, nkAll]
  | _ :: _, [], _, _ => by simp [PL.sameAll, nkAll]
  | x :: xs, y :: ys, h, h' => by
    rw [PL.keyableAll, Bool.and_eq_true] at h h'
    rw [PL.sameAll, nkAll, nkAll, Bool.and_eq_true, List.cons.injEq, same_nk x y h.1 h'.1, sameAll_nk xs ys h.2 h'.2]
end
theorem keyOk_able {k : PL.D} (h : k.keyOk = true) : k.keyable = true ∧ (nk k).depth ≤ 8 ∧ ∃ xs, k = .tup xs := by
  cases k with
  | tup xs =>
    unfold PL.D.keyOk at h
    dsimp only at h
    rw [Bool.and_eq_true, decide_eq_true_eq] at h
    have hk : (PL.D.tup xs).keyable = true := by rw [PL.D.keyable]; exact h.1
    refine ⟨hk, ?_, xs, rfl⟩
    rw [nk_depth _ hk, PL.D.depth]
    omega
  | _ => cases h
section
variable {P : Program} {w : World} {X : Cx} {pins : List (Addr × Obj)} {s : Shared} {σ : St} {H : Hp} {Z : Addr → Prop}
mutual
theorem Rep.nested (I : L2.Inv X pins σ H s) : ∀ (k : PL.D) (v : V) (u : Value), k.keyable = true → Rep P w X.K H Z k v → RelV v u → NestedIs s.heap (nk k) u
  | .non, v, u, _, h, r => by
    simp only [Rep] at h; subst h
    cases r
    exact .none
  | .int i, v, u, _, h, r => by
    simp only [Rep] at h; subst h
    obtain ⟨t, rfl⟩ := r
    exact .int _ _
  | .str x, v, u, _, h, r => by
    simp only [Rep] at h; subst h
    obtain ⟨t, rfl⟩ := r
    exact .text _ _
  | .tup xs, v, u, p, h, r => by
    simp only [Rep] at h
    rw [PL.D.keyable] at p
    obtain ⟨a, vs, rfl, h1, h2, h3⟩ := h
    cases r
    obtain ⟨its, rv, ⟨⟨cls, dd, data, sl⟩, ho, hc, n, hd⟩, hs⟩ := I.tuple h1.sq
    exact .tup ho hc hd (RepL.nested I xs vs its p h3 rv)
  | .bl _, _, _, h, _, _ | .lst _, _, _, h, _, _ | .dct _, _, _, h, _, _ | .fn _, _, _, h, _, _ => by rw [PL.D.keyable] at h <;> first | cases h | (intros; contradiction)
theorem RepL.nested (I : L2.Inv X pins σ H s) : ∀ (ks : List PL.D) (vs : List V) (us : List Value), PL.keyableAll ks = true → RepL P w X.K H Z ks vs → Vals vs us → NestedAll s.heap (nkAll ks) us
  | [], vs, us, _, h, r => by
    simp only [RepL] at h; subst h
    cases r
    exact .nil
  | k :: ks, vs, us, p, h, r => by
    simp only [RepL] at h
    rw [PL.keyableAll, Bool.and_eq_true] at p
    obtain ⟨v, vs', rfl, h1, h2⟩ := h
    cases r with
    | cons r1 r2 => exact .cons (Rep.nested I k v _ p.1 h1 r1) (RepL.nested I ks vs' _ p.2 h2 r2)
end
theorem Rep.is (I : L2.Inv X pins σ H s) {k : PL.D} {a : Addr} (p : k.keyOk = true) (h : Rep P w X.K H Z k (.ref a)) : (nestedKind X.prog X.w).is s.heap (nk k) a :=
  ⟨Rep.nested I k _ _ (keyOk_able p).1 h rfl, (keyOk_able p).2.1⟩
/-- the values of a dict's entries -/
def PairedX (l : List (NestedKey × Addr × V)) (xs : List (NestedKey × Addr × Value)) : Prop := Paired (fun (p : NestedKey × Addr × V) (q : NestedKey × Addr × Value) => p.1 = q.1 ∧ p.2.1 = q.2.1 ∧ RelV p.2.2 q.2.2) l xs
theorem RepK.isAll (I : L2.Inv X pins σ H s) : ∀ {kvs : List (PL.D × PL.D)} {l : List (NestedKey × Addr × V)} {xs : List (NestedKey × Addr × Value)}, RepK P w X.K H Z kvs l → PairedX l xs → ∀ x ∈ xs, (nestedKind X.prog X.w).is s.heap x.1 x.2.1
  | [], l, xs, h, p => by
    simp only [RepK] at h; subst h
    cases p
    intro x hx; cases hx
  | (k, d) :: r, l, xs, h, p => by
    simp only [RepK] at h
    obtain ⟨a, v, l', rfl, h0, h1, h2, h3⟩ := h
    cases p with
    | cons p1 p2 =>
      intro x hx
      rcases List.mem_cons.mp hx with rfl | hx
      · obtain ⟨e1, e2, _⟩ := p1
        rw [← e1, ← e2]
        exact Rep.is I h0 h1
      · exact RepK.isAll I h3 p2 x hx
theorem dic_keyed (I : L2.Inv X pins σ H s) {a : Addr} {kvs : List (PL.D × PL.D)} {l : List (NestedKey × Addr × V)} (ha : H a = some (DicO X.prog X.w a l)) (r : RepK P w X.K H Z kvs l) :
    ∃ xs, PairedX l xs ∧ s.heap.DictOfH (nestedKind X.prog X.w) a xs := by
  obtain ⟨⟨xs, p, o, es, ep, h1, h2, h3, h4, h5⟩, _⟩ := I.hok a _ ha
  exact ⟨xs, p, o, es, ep, h1, h2, h3, h4, RepK.isAll I r p, h5⟩
theorem dget_at : ∀ {kvs : List (PL.D × PL.D)} {l : List (NestedKey × Addr × V)} {xs : List (NestedKey × Addr × Value)} {k : PL.D}, RepK P w X.K H Z kvs l → PairedX l xs → k.keyOk = true →
    (PL.dget kvs k = none ∧ valueAt (pairsH xs) (nk k) = none) ∨ ∃ d v u, PL.dget kvs k = some d ∧ valueAt (pairsH xs) (nk k) = some u ∧ RelV v u ∧ Rep P w X.K H Z d v
  | [], l, xs, k, h, p, hk => by
    simp only [RepK] at h; subst h
    cases p
    exact .inl ⟨rfl, rfl⟩
  | (k', d) :: r, l, xs, k, h, p, hk => by
    simp only [RepK] at h
    obtain ⟨a, v, l', rfl, h0, h1, h2, h3⟩ := h
    cases p with
    | @cons _ q _ _ p1 p2 =>
      obtain ⟨e1, e2, rv⟩ := p1
      obtain ⟨q1, q2, q3⟩ := q
      dsimp only at e1 e2 rv
      subst e1 e2
      have sm := same_nk k' k (keyOk_able h0).1 (keyOk_able hk).1
      unfold PL.dget
      by_cases e : k'.same k = true
      · rw [if_pos e]
        refine .inr ⟨d, v, q3, rfl, ?_, rv, h2⟩
        simp [valueAt, pairsH, sm.mp e]
      · rw [if_neg e]
        have ne : nk k' ≠ nk k := fun z => e (sm.mpr z)
        have : ∀ ys, valueAt (pairsH ((nk k', a, q3) :: ys)) (nk k) = valueAt (pairsH ys) (nk k) := fun ys => by simp [valueAt, pairsH, ne]
        rw [this]
        exact dget_at h3 p2 hk
end
section
variable {G : GS} {X : Cx} {H : Hp} {Z : Addr → Prop}
variable (hg : GX G X)
include hg
theorem vw_dct {kvs : List (PL.D × PL.D)} {v : V} (h : G.Vw H Z (.dct kvs) v) : ∃ (a : Addr) (l : List (NestedKey × Addr × V)), v = .ref a ∧ H a = some (DicO X.prog X.w a l) ∧ (a == sysModules) = false ∧ l.length ≤ sizeLine ∧ RepK X.prog X.w X.K H Z kvs l := by
  obtain ⟨P, w, K, T, LA, IO, nl, nt, nd⟩ := G
  obtain ⟨rfl, rfl, rfl, _⟩ := hg
  exact h
theorem vw_key {k : PL.D} {v : V} (p : k.keyOk = true) (h : G.Vw H Z k v) : ∃ a, v = .ref a ∧ Rep X.prog X.w X.K H Z k (.ref a) := by
  obtain ⟨P, w, K, T, LA, IO, nl, nt, nd⟩ := G
  obtain ⟨rfl, rfl, rfl, _⟩ := hg
  obtain ⟨_, _, xs, rfl⟩ := keyOk_able p
  have h : Rep X.prog X.w X.K H Z (.tup xs) v := h
  have h' := h
  simp only [Rep] at h'
  obtain ⟨a, vs, rfl, _⟩ := h'
  exact ⟨a, rfl, h⟩
theorem in_fst {α : Type} {Q : Value → Shared → Prop} : True := trivial
theorem any_eqv : ∀ (ys : List PL.D) (x : PL.D), PL.plainAll ys = true → x.plain = true → ((pdAll ys).any fun y => PyData.eqv y (pd x)) = ys.any fun y => y.eqv x
  | [], _, _, _ => rfl
  | y :: ys, x, h, hx => by
    rw [PL.plainAll, Bool.and_eq_true] at h
    rw [pdAll, List.any_cons, List.any_cons, pd_eqv y x h.1 hx, any_eqv ys x h.2 hx]
def isS : PL.D → Bool
  | .str _ => true
  | _ => false
theorem oc_inn : OpR X (compareOp .In) (r2C G fun a b => if isS b = true then none else PL.inD a b) := OpR.direct fun {_ s _ _ _ x y v u dx dy b Q} I rx ry hx hy e q => by
  have hu := hg.u
  split at e
  · cases e
  rename_i ns
  unfold PL.inD at e
  split at e
  · rename_i ys
    unfold PL.isIn at e
    obtain ⟨c, rfl⟩ := if_some e
    simp only [Bool.and_eq_true, decide_eq_true_eq] at c
    replace q := q s.toks
    obtain ⟨as, ra⟩ := reads hg I rx c.1.1.1 hx
    obtain ⟨bs, rb⟩ := reads hg I ry (by rw [PL.D.plain]; exact c.1.1.2) hy
    refine PySem.SeqAt.in_tuple_data rb ra (pdAll_plain _ c.1.1.2) (pd_plain _ c.1.1.1) ?_ (by rw [any_eqv hg ys dx c.1.1.2 c.1.1.1]; exact q)
    rw [pd_depth, pdAll_depth]
    omega
  · rename_i ys
    unfold PL.isIn at e
    obtain ⟨c, rfl⟩ := if_some e
    simp only [Bool.and_eq_true, decide_eq_true_eq] at c
    replace q := q s.toks
    obtain ⟨as, ra⟩ := reads hg I rx c.1.1.1 hx
    obtain ⟨bs, rb⟩ := reads hg I ry (by rw [PL.D.plain]; exact c.1.1.2) hy
    refine PySem.SeqAt.in_list_data rb ra (pdAll_plain _ c.1.1.2) (pd_plain _ c.1.1.1) ?_ (by rw [any_eqv hg ys dx c.1.1.2 c.1.1.1]; exact q)
    rw [pd_depth, pdAll_depth]
    omega
  · rename_i kvs
    obtain ⟨c, rfl⟩ := if_some e
    obtain ⟨a, l, rfl, h1, h2, h3, h4⟩ := vw_dct hg hy
    obtain ⟨k, rfl, hk⟩ := vw_key hg c hx
    cases rx; cases ry
    obtain ⟨xs, p, D⟩ := dic_keyed I h1 h4
    have hd := dget_at h4 p c
    refine in_keyed (by show X.A.units + 1 + 8 < cLine; omega) (Rep.is I c hk) h2 ⟨xs, D, rfl⟩ ?_
    rcases hd with ⟨e1, e2⟩ | ⟨d, v, u, e1, e2, _⟩
    · rw [e2]; rw [e1] at q; exact q _
    · rw [e2]; rw [e1] at q; exact q _
  · exact absurd rfl ns
  · cases e
theorem oc_notinn : OpR X (compareOp .NotIn) (r2C G fun a b => if isS b = true then none else (PL.inD a b).map (!·)) := OpR.direct fun {_ s _ _ _ x y v u dx dy b Q} I rx ry hx hy e q => by
  have hu := hg.u
  split at e
  · cases e
  rename_i ns
  unfold PL.inD at e
  split at e
  · rename_i ys
    unfold PL.isIn at e
    split at e <;> cases e
    rename_i c
    simp only [Bool.and_eq_true, decide_eq_true_eq] at c
    replace q := q s.toks
    obtain ⟨as, ra⟩ := reads hg I rx c.1.1.1 hx
    obtain ⟨bs, rb⟩ := reads hg I ry (by rw [PL.D.plain]; exact c.1.1.2) hy
    refine PySem.SeqAt.notIn_tuple_data rb ra (pdAll_plain _ c.1.1.2) (pd_plain _ c.1.1.1) ?_ (by rw [any_eqv hg ys dx c.1.1.2 c.1.1.1]; exact q)
    rw [pd_depth, pdAll_depth]
    omega
  · rename_i ys
    unfold PL.isIn at e
    split at e <;> cases e
    rename_i c
    simp only [Bool.and_eq_true, decide_eq_true_eq] at c
    replace q := q s.toks
    obtain ⟨as, ra⟩ := reads hg I rx c.1.1.1 hx
    obtain ⟨bs, rb⟩ := reads hg I ry (by rw [PL.D.plain]; exact c.1.1.2) hy
    refine PySem.SeqAt.notIn_list_data rb ra (pdAll_plain _ c.1.1.2) (pd_plain _ c.1.1.1) ?_ (by rw [any_eqv hg ys dx c.1.1.2 c.1.1.1]; exact q)
    rw [pd_depth, pdAll_depth]
    omega
  · rename_i kvs
    split at e <;> cases e
    rename_i c
    obtain ⟨a, l, rfl, h1, h2, h3, h4⟩ := vw_dct hg hy
    obtain ⟨k, rfl, hk⟩ := vw_key hg c hx
    cases rx; cases ry
    obtain ⟨xs, p, D⟩ := dic_keyed I h1 h4
    have hd := dget_at h4 p c
    refine notIn_keyed (by show X.A.units + 1 + 8 < cLine; omega) (Rep.is I c hk) h2 ⟨xs, D, rfl⟩ ?_
    rcases hd with ⟨e1, e2⟩ | ⟨d, v, u, e1, e2, _⟩
    · rw [e2]; rw [e1] at q; exact q _
    · rw [e2]; rw [e1] at q; exact q _
  · exact absurd rfl ns
  · cases e

theorem str1 (c : Nat) : (⟨[c].toArray⟩ : Str) = ⟨#[c]⟩ := rfl
theorem oc_in : OpR X (compareOp .In) (r2C G PL.inD) := OpR.pick fun x y H Q h => by
  obtain ⟨Z, dx, dy, b, zin, hx, hy, e, q⟩ := h
  by_cases hs : isS dy = true
  · cases dy <;> (first | (cases hs; done) | skip)
    rename_i t
    unfold PL.inD at e
    cases dx <;> (first | (cases e; done) | skip)
    rename_i u
    rcases u with _ | ⟨c, _ | ⟨c2, r⟩⟩
    · cases e
    · cases e
      cases vw_str hx; cases vw_str hy
      refine ⟨_, op_in_sign, c, _, rfl, rfl, ?_⟩
      have : decide (c ∈ (⟨t.toArray⟩ : Str).cps.toList) = t.contains c := by simp
      rw [this]
      exact q
    · cases e
  · exact ⟨_, oc_inn hg, Z, dx, dy, b, zin, hx, hy, (if_neg hs).trans e, q⟩
theorem oc_notin : OpR X (compareOp .NotIn) (r2C G fun a b => (PL.inD a b).map (!·)) := OpR.pick fun x y H Q h => by
  obtain ⟨Z, dx, dy, b, zin, hx, hy, e, q⟩ := h
  by_cases hs : isS dy = true
  · cases dy <;> (first | (cases hs; done) | skip)
    rename_i t
    unfold PL.inD at e
    cases dx <;> (first | (cases e; done) | skip)
    rename_i u
    rcases u with _ | ⟨c, _ | ⟨c2, r⟩⟩
    · cases e
    · cases e
      cases vw_str hx; cases vw_str hy
      refine ⟨_, op_notIn_sign, c, _, rfl, rfl, ?_⟩
      have : decide (c ∈ (⟨t.toArray⟩ : Str).cps.toList) = t.contains c := by simp
      rw [this]
      exact q
    · cases e
  · exact ⟨_, oc_notinn hg, Z, dx, dy, b, zin, hx, hy, (if_neg hs).trans e, q⟩
theorem oc_cmp (op : PL.Cmp) : OpR X (compareOp (cop op)) (r2C G (PL.cmpD op)) := by
  cases op
  · exact oc_eq hg
  · exact oc_ne hg
  · exact oc_lt hg
  · exact oc_le hg
  · exact oc_gt hg
  · exact oc_ge hg
  · exact oc_in hg
  · exact oc_notin hg
  · exact oc_is hg
  · exact oc_isnot hg
end
end PLS
end

section
set_option Elab.async false
set_option linter.all false
set_option maxRecDepth 100000
set_option maxHeartbeats 4000000
/-! the soundness of P-lang: places, slices, builtins by values -/
namespace PLS
open PySem PySem.Spec PyProof.Rows L2 PySem.W
section
variable {G : GS} {X : Cx}
theorem IxR.pick {r' : R2} (h : ∀ x y H Q, r' x y H Q → ∃ r, IxR X r ∧ r x y H Q) : IxR X r' := fun a b pins s σ H x y v u Q I rx ry q => (h x y H Q q).elim fun _ z => z.1 a b pins s σ H x y v u Q I rx ry z.2
theorem SlR.pick {r' : V → Option Int → Option Int → Hp → VK → Prop} (h : ∀ x lo hi H Q, r' x lo hi H Q → ∃ r, SlR X r ∧ r x lo hi H Q) : SlR X r' := fun pins s σ H x v vl vu lo hi sl Q I rx hs pl pu q => (h x lo hi H Q q).elim fun _ z => z.1 pins s σ H x v vl vu lo hi sl Q I rx hs pl pu z.2
theorem CallR.pick {f : Value} {r' : List V → Hp → VK → Prop} (h : ∀ xs H Q, r' xs H Q → ∃ r, CallR X f r ∧ r xs H Q) : CallR X f r' := fun pins s σ H xs us Q I rv q => (h xs H Q q).elim fun _ z => z.1 pins s σ H xs us Q I rv z.2
theorem ixN_eq (n : Nat) (i : Int) : L2.ixN n i = PL.ixN n i := by
  unfold L2.ixN
  cases i with
  | ofNat k =>
    show (if (0 : Int) ≤ (k : Int) then (if (k : Int) < n then some (k : Int).toNat else none) else _) = if k < n then some k else none
    rw [if_pos (by omega)]
    by_cases h : k < n
    · rw [if_pos h, if_pos (by omega)]; rfl
    · rw [if_neg h, if_neg (by omega)]
  | negSucc k =>
    show _ = if k < n then some (n - 1 - k) else none
    rw [if_neg (by omega)]
    by_cases h : k < n
    · rw [if_pos h, if_pos (by omega)]
      congr 1
      omega
    · rw [if_neg h, if_neg (by omega)]
theorem sIx_eq (n d : Nat) (o : Option Int) : HT.sIx n d o = PL.sIx n d o := by
  cases o with
  | none => rfl
  | some i =>
    cases i with
    | ofNat k => exact HT.sIx_nat n d k
    | negSucc k =>
      show (if Int.negSucc k < 0 then (Int.negSucc k + (n : Int)).toNat else min (Int.negSucc k).toNat n) = n - (k + 1)
      rw [if_pos (by omega)]
      omega
theorem atI_map {ds : List PL.D} {vs : List V} {H : Hp} {Z : Addr → Prop} {i : Int} {d : PL.D} (r : G.RL H Z ds vs) (e : PL.atI ds i = some d) : ∃ v, L2.atI vs i = some v ∧ G.R H Z d v := by
  unfold PL.atI at e
  unfold L2.atI
  rw [ixN_eq, ← r.length]
  cases q : PL.ixN ds.length i with
  | none => rw [q] at e; cases e
  | some j =>
    rw [q] at e
    exact r.get e
theorem grow0 {H : Hp} {Z : Addr → Prop} {z : PL.D} {v : V} {Q : VK} (q : ∀ v H', (∀ a o, H a = some o → H' a = some o) → ResA G H H' Z (.v z) v → Q v H') (h : G.R H Z z v) : Q v H := q v H all_keep h
variable (hg : GX G X)
include hg
theorem getDic {pins : List (Addr × Obj)} {s : Shared} {σ : St} {H : Hp} {Z : Addr → Prop} {Q : VK} {x y : V} {v u : Value} {kvs : List (PL.D × PL.D)} {k d : PL.D} (I : L2.Inv X pins σ H s) (rx : RelV x v) (ry : RelV y u) (hx : G.Vw H Z (.dct kvs) x) (hy : G.Vw H Z k y) (hk : k.keyOk = true) (e : PL.dget kvs k = some d)
    (q : ∀ v, G.R H Z d v → Q v H) : wpAny (model X.prog X.w) X.A (getItem v u) (EP X pins σ Q) X.xe s := by
  have hu := hg.u
  obtain ⟨a, l, rfl, h1, h2, h3, h4⟩ := vw_dct hg hx
  obtain ⟨ka, rfl, hka⟩ := vw_key hg hk hy
  cases rx; cases ry
  obtain ⟨xs, p, D⟩ := dic_keyed I h1 h4
  rcases dget_at h4 p hk with ⟨e1, e2⟩ | ⟨d', v', u', e1, e2, rv, rd⟩
  · rw [e] at e1; cases e1
  · rw [e] at e1
    cases e1
    refine getItem_keyed (by show X.A.units + 1 + 8 < cLine; omega) (Rep.is I hk hka) ⟨xs, D, rfl⟩ e2 ?_
    refine ⟨v', H, I.tok _, rv, q v' ?_⟩
    obtain ⟨P, w, K, T, LA, IO, nl, nt, nd⟩ := G
    obtain ⟨rfl, rfl, rfl, _⟩ := hg
    exact rd
theorem ix_dic : IxR X (fun x y H Q => ∃ Z kvs k d, G.Vw H Z (.dct kvs) x ∧ G.Vw H Z k y ∧ k.keyOk = true ∧ PL.dget kvs k = some d ∧ ∀ v, G.R H Z d v → Q v H) := by
  intro value slice pins s σ H x y v u Q I rx ry h hs
  obtain ⟨Z, kvs, k, d, hx, hy, hk, e, q⟩ := h
  have hx' := hx
  obtain ⟨a, l, rfl, h1, h2, h3, h4⟩ := vw_dct hg hx
  have rx' := rx
  cases rx
  obtain ⟨xs, p, D⟩ := dic_keyed I h1 h4
  exact tail_any D.typeIs F.slot_dict_getitem.lookup (getDic hg I rx' ry hx' hy hk e q) hs
theorem oi_sub : IxR X (r2D G fun x y => (PL.subD x y).map .v) := IxR.pick fun x y H Q h => by
  obtain ⟨Z, dx, dy, z, zin, hx, hy, ez, q⟩ := h
  dsimp only at ez
  cases e : PL.subD dx dy with
  | none => rw [e] at ez; cases ez
  | some d =>
    rw [e] at ez
    cases ez
    unfold PL.subD at e
    split at e
    · cases vw_int hy
      obtain ⟨a, vs, rfl, h1, l1, r1⟩ := vw_tup hx
      obtain ⟨v, e2, r2⟩ := atI_map r1 e
      exact ⟨_, ix_seq, .inr (.inl ⟨a, vs, _, v, rfl, rfl, h1.sq, e2, grow0 q r2⟩)⟩
    · cases vw_int hy
      obtain ⟨a, vs, rfl, h1, l1, r1⟩ := vw_lst hx
      obtain ⟨v, e2, r2⟩ := atI_map r1 e
      rw [hg.k] at h1
      exact ⟨_, ix_seq, .inl ⟨a, vs, _, v, rfl, rfl, h1, e2, grow0 q r2⟩⟩
    · cases vw_int hy
      cases vw_str hx
      rename_i t i
      split at e
      · rename_i hl
        cases e2 : PL.atI t i with
        | none => rw [e2] at e; cases e
        | some c =>
          rw [e2] at e
          cases e
          refine ⟨_, ix_seq, .inr (.inr ⟨_, _, c, rfl, rfl, by rw [str_len, ← line_eq]; exact hl, by unfold L2.atI; rw [ixN_eq]; unfold PL.atI at e2; cases q3 : PL.ixN t.length i with | none => rw [q3] at e2; cases e2 | some j => rw [q3] at e2; exact e2, q_str q⟩)⟩
      · cases e
    · rename_i kvs
      split at e
      · rename_i c
        exact ⟨_, ix_dic hg, Z, kvs, dy, d, hx, hy, c, e, fun v r => grow0 q r⟩
      · cases e
    · cases e
theorem os_slice {lo hi : Option Int} {x : V} {H : Hp} {Q : VK} (h : r1D G (fun d => PL.sliceD d lo hi) x H Q) : ∃ r, SlR X r ∧ r x lo hi H Q := by
  obtain ⟨Z, dx, z, zin, hx, ez, q⟩ := h
  dsimp only at ez
  unfold PL.sliceD at ez
  split at ez
  · cases ez
    obtain ⟨a, vs, rfl, h1, l1, r1⟩ := vw_tup hx
    rename_i ds
    have el : ds.length = vs.length := r1.length
    have rc : G.RL H Z (PL.cut ds lo hi) (cutV vs lo hi) := by
      unfold PL.cut cutV
      rw [el, sIx_eq, sIx_eq]
      exact RepL.take _ (RepL.drop _ r1)
    refine ⟨_, sl_tupF, a, vs, rfl, h1.sq, fun hw => ?_, res_tup (Nat.le_trans (cutV_length vs lo hi) l1) rc q⟩
    have ec : cutV vs lo hi = vs := by
      unfold cutV
      rw [hw.1, hw.2, List.drop_zero, Nat.sub_zero, List.take_length]
    have ed : PL.cut ds lo hi = ds := by
      have h0 : PL.sIx ds.length 0 lo = 0 := by rw [el, ← sIx_eq]; exact hw.1
      have h2 : PL.sIx ds.length ds.length hi = ds.length := by rw [el, ← sIx_eq]; exact hw.2
      unfold PL.cut
      rw [h0, h2, List.drop_zero, Nat.sub_zero, List.take_length]
    rw [ed] at q
    exact grow0 q (r_tup h1 l1 r1)
  · cases ez
    obtain ⟨a, vs, rfl, h1, l1, r1⟩ := vw_lst hx
    rename_i ds
    have el : ds.length = vs.length := r1.length
    have rc : G.RL H Z (PL.cut ds lo hi) (cutV vs lo hi) := by
      unfold PL.cut cutV
      rw [el, sIx_eq, sIx_eq]
      exact RepL.take _ (RepL.drop _ r1)
    rw [hg.k] at h1
    exact ⟨_, sl_list, a, vs, rfl, h1, fun p n => q _ _ (upd_grow n) (res_lst n (Nat.le_trans (cutV_length vs lo hi) l1) rc)⟩
  · cases vw_str hx
    obtain ⟨hl, rfl⟩ := if_some ez
    rename_i t
    refine ⟨_, sl_str, _, rfl, by rw [str_len, ← line_eq]; exact hl, ?_⟩
    have : cutS (⟨t.toArray⟩ : Str) lo hi = ⟨(PL.cut t lo hi).toArray⟩ := by
      unfold cutS PL.cut
      rw [str_len, sIx_eq, sIx_eq]
    rw [this]
    exact q_str q
  · cases ez

/-! ### builtins of one argument -/
omit hg in
def c1D (G : GS) (k : PL.D → Option PL.AV) : List V → Hp → VK → Prop := fun vs H Q => ∃ x, vs = [x] ∧ r1D G k x H Q
theorem oc_len : CallR X (.builtin "len") (c1D G PL.lenD) := CallR.pick fun vs H Q h => by
  obtain ⟨x, rfl, Z, d, z, zin, hx, ez, q⟩ := h
  cases d <;> (first | (cases ez; done) | skip)
  · cases vw_str hx
    obtain ⟨hl, rfl⟩ := if_some ez
    refine ⟨_, call_len_str, _, rfl, by rw [str_len, ← line_eq]; exact hl, ?_⟩
    rw [str_len]
    exact q_int q
  · cases ez
    obtain ⟨a, vs, rfl, h1, l1, r1⟩ := vw_tup hx
    refine ⟨_, call_len_seq, a, vs, rfl, .inr h1.sq, ?_⟩
    rw [← r1.length]
    exact q_int q
  · cases ez
    obtain ⟨a, vs, rfl, h1, l1, r1⟩ := vw_lst hx
    rw [hg.k] at h1
    refine ⟨_, call_len_seq, a, vs, rfl, .inl h1, ?_⟩
    rw [← r1.length]
    exact q_int q
theorem oc_tuple : CallR X (.type "tuple") (c1D G PL.tupleD) := CallR.pick fun vs H Q h => by
  obtain ⟨x, rfl, Z, d, z, zin, hx, ez, q⟩ := h
  cases d <;> (first | (cases ez; done) | skip)
  · cases ez
    obtain ⟨a, vs, rfl, h1, l1, r1⟩ := vw_tup hx
    exact ⟨_, call_tuple_ofF, a, vs, rfl, .inr ⟨h1.sq, grow0 q (r_tup h1 l1 r1)⟩⟩
  · cases ez
    obtain ⟨a, vs, rfl, h1, l1, r1⟩ := vw_lst hx
    rw [hg.k] at h1
    exact ⟨_, call_tuple_ofF, a, vs, rfl, .inl ⟨h1, res_tup l1 r1 q⟩⟩
theorem oc_list : CallR X (.type "list") (c1D G PL.listD) := CallR.pick fun vs H Q h => by
  obtain ⟨x, rfl, Z, d, z, zin, hx, ez, q⟩ := h
  cases d <;> (first | (cases ez; done) | skip)
  · cases ez
    obtain ⟨a, vs, rfl, h1, l1, r1⟩ := vw_tup hx
    exact ⟨_, call_list_of, a, vs, rfl, .inr h1.sq, fun p n => q _ _ (upd_grow n) (res_lst n l1 r1)⟩
  · cases ez
    obtain ⟨a, vs, rfl, h1, l1, r1⟩ := vw_lst hx
    rw [hg.k] at h1
    exact ⟨_, call_list_of, a, vs, rfl, .inl h1, fun p n => q _ _ (upd_grow n) (res_lst n l1 r1)⟩
theorem allB_of : ∀ {ds : List PL.D} {vs : List V} {b : Bool} {H : Hp} {Z : Addr → Prop}, G.RL H Z ds vs → PL.allB ds = some b → ∃ bs : List Bool, vs = bs.map V.bl ∧ bs.all id = b
  | [], vs, b, H, Z, r, e => by
    cases e
    simp only [GS.RL, RepL] at r
    subst r
    exact ⟨[], rfl, rfl⟩
  | d :: ds, vs, b, H, Z, r, e => by
    simp only [GS.RL, RepL] at r
    obtain ⟨v, r, rfl, h1, h2⟩ := r
    cases d <;> (first | (cases e; done) | skip)
    rename_i c
    unfold PL.allB at e
    cases e2 : PL.allB ds with
    | none => rw [e2] at e; cases e
    | some b' =>
      rw [e2] at e
      cases e
      obtain ⟨bs, rfl, e3⟩ := allB_of h2 e2
      simp only [Rep] at h1
      subst h1
      exact ⟨c :: bs, rfl, by rw [List.all_cons, e3]; rfl⟩
theorem oc_all (hc : X.calm = true) : CallR X (.builtin "all") (c1D G PL.allD) := CallR.pick fun vs H Q h => by
  obtain ⟨x, rfl, Z, d, z, zin, hx, ez, q⟩ := h
  cases d <;> (first | (cases ez; done) | skip)
  rename_i ds
  unfold PL.allD at ez
  dsimp only at ez
  cases e : PL.allB ds with
  | none => rw [e] at ez; cases ez
  | some b =>
    rw [e] at ez
    cases ez
    obtain ⟨a, vs, rfl, h1, l1, r1⟩ := vw_lst hx
    obtain ⟨bs, rfl, e2⟩ := allB_of hg r1 e
    rw [hg.k] at h1
    refine ⟨_, cr_all hc, a, bs, rfl, h1, ?_⟩
    rw [e2]
    exact q_bl q
theorem oc_int : CallR X (.type "int") (c1D G PL.intD) := CallR.pick fun vs H Q h => by
  obtain ⟨x, rfl, Z, d, z, zin, hx, ez, q⟩ := h
  cases d <;> (first | (cases ez; done) | skip)
  · cases ez
    cases vw_bl hx
    exact ⟨_, call_int1, .inr ⟨_, rfl, q_int q⟩⟩
  · cases ez
    cases vw_int hx
    exact ⟨_, call_int1, .inl ⟨_, rfl, q_int q⟩⟩
theorem oc_abs : CallR X (.builtin "abs") (c1D G PL.absD) := CallR.pick fun vs H Q h => by
  obtain ⟨x, rfl, Z, d, z, zin, hx, ez, q⟩ := h
  cases d <;> (first | (cases ez; done) | skip)
  cases ez
  cases vw_int hx
  exact ⟨_, call_abs, _, rfl, q_int q⟩
omit hg in
def c2D (G : GS) (k : PL.D → PL.D → Option PL.AV) : List V → Hp → VK → Prop := fun vs H Q => ∃ x y, vs = [x, y] ∧ r2D G k x y H Q
theorem oc_min2 (hc : X.calm = true) : CallR X (.builtin "min") (c2D G PL.min2D) := CallR.pick fun vs H Q h => by
  obtain ⟨x, y, rfl, Z, dx, dy, z, zin, hx, hy, ez, q⟩ := h
  cases dx <;> cases dy <;> (first | (cases ez; done) | skip)
  cases ez
  cases vw_int hx; cases vw_int hy
  exact ⟨_, call_min2 hc, _, _, rfl, q_int q⟩

/-! ### isinstance -/
omit hg in
def tyN : PL.Ty → String
  | .non => "NoneType"
  | .bool => "bool"
  | .int => "int"
  | .str => "str"
  | .tuple => "tuple"
  | .list => "list"
  | .dict => "dict"
theorem kit_d {pins : List (Addr × Obj)} {s : Shared} {σ : St} {H : Hp} {Z : Addr → Prop} {x : V} {u : Value} {d : PL.D} {t : PL.Ty} (I : L2.Inv X pins σ H s) (rx : RelV x u) (hx : G.Vw H Z d x) (e : d.ty = some t) :
    ∃ P : Heap → Prop, PySem.W.KitX X.K u (.type (tyN t)) P ∧ P s.heap ∧ u ≠ .builtin "__main__.__loader__#opaque" := by
  cases d <;> cases e
  · cases vw_non hx; cases (show u = Value.none from rx); exact ⟨_, PySem.W.kitx_none, True.intro, fun z => nomatch z⟩
  · cases vw_bl hx; cases (show u = Value.bool _ from rx); exact ⟨_, PySem.W.kitx_bool, True.intro, fun z => nomatch z⟩
  · cases vw_int hx; obtain ⟨t, q⟩ := (show ∃ t, u = Value.int _ t from rx); cases q; exact ⟨_, PySem.W.kitx_int, True.intro, fun z => nomatch z⟩
  · cases vw_str hx; obtain ⟨t, q⟩ := (show ∃ t, u = Value.str _ t from rx); cases q; exact ⟨_, PySem.W.kitx_str, True.intro, fun z => nomatch z⟩
  · obtain ⟨a, vs, rfl, h1, l1, r1⟩ := vw_tup hx
    cases rx
    obtain ⟨its, rv, ⟨o, ho, hc, n, hd⟩, hs⟩ := I.tuple h1.sq
    exact ⟨_, PySem.W.kitx_tuple, ⟨o, ho, hc⟩, fun z => nomatch z⟩
  · obtain ⟨a, vs, rfl, h1, l1, r1⟩ := vw_lst hx
    rw [hg.k] at h1
    cases rx
    obtain ⟨its, rv, ⟨o, n, ho, hc, _⟩, hs⟩ := I.list h1
    exact ⟨_, PySem.W.kitx_list, ⟨o, ho, hc⟩, fun z => nomatch z⟩
  · obtain ⟨a, l, rfl, h1, h2, h3, h4⟩ := vw_dct hg hx
    cases rx
    obtain ⟨xs, p, o, es, ep, ho, hc, _⟩ := dic_keyed I h1 h4
    exact ⟨_, PySem.W.kitx_dict, ⟨o, ho, hc.1⟩, fun z => nomatch z⟩
omit hg in
/-- the class named -/
def kindN : PL.Kind → Option String
  | .int => some "int"
  | .bool => some "bool"
  | .tuple => some "tuple"
  | .list => some "list"
  | .str => some "str"
  | .tuplist => none
theorem oc_isi {k : PL.Kind} {n : String} (hn : kindN k = some n) : CallR X (.builtin "isinstance") (fun xs H Q => ∃ x, xs = [x, .ty n] ∧ r1D G (PL.isiD k) x H Q) := by
  intro pins s σ H xs us Q I r h
  obtain ⟨x, rfl, Z, d, z, zin, hx, ez, q⟩ := h
  obtain ⟨u1, u2, rfl, r1, r2⟩ := vals2 r
  obtain rfl : u2 = Value.type n := r2
  unfold PL.isiD at ez
  cases e : d.ty with
  | none => rw [e] at ez; cases ez
  | some t =>
    rw [e] at ez
    cases ez
    obtain ⟨P, K, p, nb⟩ := kit_d hg I r1 hx e
    refine PySem.W.kia_one (b := k.is t) K I.kIn p ?_ nb fun tk => ⟨.bl _, H, I.tok tk, rfl, q_bl q⟩
    cases k <;> cases hn <;> cases t <;> rfl
theorem oc_isiT : CallR X (.builtin "isinstance") (fun xs H Q => ∃ x tp, xs = [x, .ref tp] ∧ H tp = some (.tup [.ty "tuple", .ty "list"]) ∧ r1D G (PL.isiD .tuplist) x H Q) := by
  intro pins s σ H xs us Q I r h
  obtain ⟨x, tp, rfl, hT, Z, d, z, zin, hx, ez, q⟩ := h
  obtain ⟨u1, u2, rfl, r1, r2⟩ := vals2 r
  cases (show u2 = Value.ref tp from r2)
  unfold PL.isiD at ez
  cases e : d.ty with
  | none => rw [e] at ez; cases ez
  | some t =>
    rw [e] at ez
    cases ez
    obtain ⟨P, K, p, nb⟩ := kit_d hg I r1 hx e
    obtain ⟨_, its, rv, o, h1, h2, n, h3⟩ := (show ObjOk X.prog X.w H s.heap tp (.tup [.ty "tuple", .ty "list"]) from I.hok tp _ hT)
    obtain ⟨w1, w2, rfl, s1, s2⟩ := vals2 rv
    obtain rfl : w1 = Value.type "tuple" := s1
    obtain rfl : w2 = Value.type "list" := s2
    obtain ⟨oc, od, dt, sl⟩ := o
    simp only at h2 h3
    subst h2 h3
    refine PySem.W.kia_tup (b := PL.Kind.is .tuplist t) K I.kIn p h1 ?_ nb fun tk => ⟨.bl _, H, I.tok tk, rfl, q_bl q⟩
    cases t <;> rfl
end
end PLS
end

section
set_option Elab.async false
set_option linter.all false
set_option maxRecDepth 100000
set_option maxHeartbeats 4000000
/-! the soundness of P-lang: dict(pairs) -/
namespace PLS
open PySem PySem.Spec PyProof.Rows L2 PySem.W
/-- k's entry put, at its first place -/
def sput {α : Type} (k : NestedKey) (a : Addr) (v : α) : List (NestedKey × Addr × α) → List (NestedKey × Addr × α)
  | [] => [(k, a, v)]
  | (k', a', v') :: r => if k' = k then (k', a', v) :: r else (k', a', v') :: sput k a v r
theorem sput_len {α : Type} (k : NestedKey) (a : Addr) (v : α) : ∀ xs : List (NestedKey × Addr × α), (sput k a v xs).length ≤ xs.length + 1
  | [] => by simp [sput]
  | (k', a', v') :: r => by
    unfold sput
    split
    · simp
    · have := sput_len k a v r
      simp only [List.length_cons]
      omega
theorem sput_mem {α : Type} (k : NestedKey) (a : Addr) (v : α) : ∀ (xs : List (NestedKey × Addr × α)) (q : NestedKey), q ∈ (sput k a v xs).map (·.1) ↔ q = k ∨ q ∈ xs.map (·.1)
  | [], q => by simp [sput]
  | (k', a', v') :: r, q => by
    unfold sput
    split
    · rename_i e
      simp only [List.map_cons, List.mem_cons, e]
      constructor
      · rintro (h | h)
        · exact .inl h
        · exact .inr (.inr h)
      · rintro (h | h | h)
        · exact .inl h
        · exact .inl h
        · exact .inr h
    · simp only [List.map_cons, List.mem_cons, sput_mem k a v r q]
      constructor
      · rintro (h | h | h)
        · exact .inr (.inl h)
        · exact .inl h
        · exact .inr (.inr h)
      · rintro (h | h | h)
        · exact .inr (.inl h)
        · exact .inl h
        · exact .inr (.inr h)
theorem sput_nodup {α : Type} (k : NestedKey) (a : Addr) (v : α) : ∀ xs : List (NestedKey × Addr × α), (xs.map (·.1)).Nodup → ((sput k a v xs).map (·.1)).Nodup
  | [], _ => by simp [sput]
  | (k', a', v') :: r, h => by
    rw [List.map_cons, List.nodup_cons] at h
    unfold sput
    split
    · rw [List.map_cons, List.nodup_cons]
      exact h
    · rename_i ne
      rw [List.map_cons, List.nodup_cons]
      refine ⟨fun z => ?_, sput_nodup k a v r h.2⟩
      rcases (sput_mem k a v r k').mp z with e | e
      · exact ne e
      · exact h.1 e
theorem putAt_id (k : NestedKey) (v : Value) : ∀ r : List (NestedKey × Addr × Value), k ∉ r.map (·.1) → r.map (putAt k v) = r
  | [], _ => rfl
  | x :: r, h => by
    rw [List.map_cons, List.mem_cons] at h
    have h1 : x.1 ≠ k := fun e => h (.inl e.symm)
    have h2 : putAt k v x = x := by unfold putAt; rw [if_neg h1]
    rw [List.map_cons, h2, putAt_id k v r fun z => h (.inr z)]
theorem storedH_sput (k : NestedKey) (a : Addr) (v : Value) : ∀ xs : List (NestedKey × Addr × Value), (xs.map (·.1)).Nodup → storedH xs k a v = sput k a v xs
  | [], _ => rfl
  | (k', a', v') :: r, h => by
    rw [List.map_cons, List.nodup_cons] at h
    have ih := storedH_sput k a v r h.2
    unfold sput
    by_cases e : k' = k
    · subst e
      rw [if_pos rfl]
      unfold storedH atKey
      simp only [List.find?_cons, decide_true, if_true, Option.map_some, Option.isSome_some, List.map_cons]
      rw [putAt_id k' v r h.1]
      simp [putAt]
    · rw [if_neg e, ← ih]
      unfold storedH atKey
      simp only [List.find?_cons, decide_eq_false e, List.map_cons]
      have : putAt k v (k', a', v') = (k', a', v') := by unfold putAt; rw [if_neg e]
      rw [this]
      split <;> rfl
section
variable {P : Program} {w : World} {K : PySem.W.Frag} {H : Hp} {Z : Addr → Prop}
theorem RepK.put {k d : PL.D} {a : Addr} {v : V} (hk : k.keyOk = true) (rk : Rep P w K H Z k (.ref a)) (rd : Rep P w K H Z d v) : ∀ {kvs : List (PL.D × PL.D)} {l : List (NestedKey × Addr × V)}, RepK P w K H Z kvs l → RepK P w K H Z (PL.dput kvs k d) (sput (nk k) a v l)
  | [], l, h => by
    simp only [RepK] at h; subst h
    unfold PL.dput sput
    simp only [RepK]
    exact ⟨a, v, [], rfl, hk, rk, rd, rfl⟩
  | (k', d') :: r, l, h => by
    simp only [RepK] at h
    obtain ⟨a', v', l', rfl, h0, h1, h2, h3⟩ := h
    have sm := same_nk k' k (keyOk_able h0).1 (keyOk_able hk).1
    unfold PL.dput sput
    by_cases e : k'.same k = true
    · rw [if_pos e, if_pos (sm.mp e)]
      simp only [RepK]
      exact ⟨a', v, l', rfl, h0, h1, rd, h3⟩
    · rw [if_neg e, if_neg fun z => e (sm.mpr z)]
      simp only [RepK]
      exact ⟨a', v', _, rfl, h0, h1, h2, RepK.put hk rk rd h3⟩
theorem PairedX.put {k : NestedKey} {a : Addr} {v : V} {u : Value} (rv : RelV v u) : ∀ {l : List (NestedKey × Addr × V)} {xs : List (NestedKey × Addr × Value)}, PairedX l xs → PairedX (sput k a v l) (sput k a u xs)
  | [], xs, h => by
    cases h
    exact .cons ⟨rfl, rfl, rv⟩ .nil
  | (k', a', v') :: r, xs, h => by
    cases h with
    | @cons _ q _ _ p1 p2 =>
      obtain ⟨e1, e2, rv'⟩ := p1
      obtain ⟨q1, q2, q3⟩ := q
      dsimp only at e1 e2 rv'
      subst e1 e2
      unfold sput
      by_cases e : k' = k
      · rw [if_pos e, if_pos e]
        exact .cons ⟨rfl, rfl, rv⟩ p2
      · rw [if_neg e, if_neg e]
        exact .cons ⟨rfl, rfl, rv'⟩ (PairedX.put rv p2)
theorem PairedX.len : ∀ {l : List (NestedKey × Addr × V)} {xs : List (NestedKey × Addr × Value)}, PairedX l xs → l.length = xs.length
  | _, _, .nil => rfl
  | _, _, .cons _ p => by rw [List.length_cons, List.length_cons, PairedX.len p]
end
section
variable {P : Program} {w : World} {X : Cx} {pins : List (Addr × Obj)} {s : Shared} {σ : St} {H : Hp} {Z : Addr → Prop}
/-- a pair's own tuple -/
theorem pair_at (I : L2.Inv X pins σ H s) {k d : PL.D} {v : V} {u : Value} (r : RelV v u) (h : Rep P w X.K H Z (.tup [k, d]) v) (hk : k.keyOk = true) :
    ∃ (t ka : Addr) (dv : V) (du : Value), u = .ref t ∧ PairAt s.heap t (.ref ka) du ∧ Rep P w X.K H Z k (.ref ka) ∧ Rep P w X.K H Z d dv ∧ RelV dv du := by
  simp only [Rep] at h
  obtain ⟨t, vs, rfl, h1, h2, h3⟩ := h
  cases r
  obtain ⟨its, rv, T, hs⟩ := I.tuple h1.sq
  simp only [RepL] at h3
  obtain ⟨kv, r1, rfl, rk, dv, r2, rfl, rd, rfl⟩ := h3
  obtain ⟨_, _, xs, rfl⟩ := keyOk_able hk
  have rk' := rk
  simp only [Rep] at rk'
  obtain ⟨ka, kvs, rfl, _⟩ := rk'
  obtain ⟨u1, u2, rfl, e1, e2⟩ := vals2 rv
  cases e1
  exact ⟨t, ka, dv, u2, rfl, .inl T, rk, rd, e2⟩
theorem fill_of (I : L2.Inv X pins σ H s) : ∀ {ds : List PL.D} {vs : List V} {us : List Value} {acc kvs : List (PL.D × PL.D)} {l : List (NestedKey × Addr × V)} {xs : List (NestedKey × Addr × Value)},
    RepL P w X.K H Z ds vs → Vals vs us → PL.dfill ds acc = some kvs → RepK P w X.K H Z acc l → PairedX l xs → (xs.map (·.1)).Nodup → ∃ (ts : List Addr) (qs : List (NestedKey × Addr × Value)) (l' : List (NestedKey × Addr × V)),
      us = ts.map .ref ∧ ts.length = qs.length ∧ (∀ j q, qs[j]? = some q → PairAt s.heap (ts.getD j 0) (.ref q.2.1) q.2.2) ∧ (∀ q ∈ qs, (nestedKind X.prog X.w).is s.heap q.1 q.2.1) ∧ RepK P w X.K H Z kvs l' ∧ PairedX l' (storedAllH xs qs) ∧ l'.length ≤ l.length + ds.length
  | [], vs, us, acc, kvs, l, xs, h, r, e, ha, px, nd => by
    simp only [RepL] at h; subst h
    cases r
    cases e
    exact ⟨[], [], l, rfl, rfl, (fun j q hq => by simp at hq), (fun q hq => by cases hq), ha, px, Nat.le_refl _⟩
  | d :: ds, vs, us, acc, kvs, l, xs, h, r, e, ha, px, nd => by
    unfold PL.dfill at e
    split at e
    · rename_i h1; cases h1
    · rename_i k x r' h1
      cases h1
      split at e
      · rename_i hk
        simp only [RepL] at h
        obtain ⟨v, vs', rfl, h1, h2⟩ := h
        cases r with
        | @cons _ u _ us' r1 r2 =>
          obtain ⟨t, ka, dv, du, rfl, pa, rk, rd, rdu⟩ := pair_at I r1 h1 hk
          obtain ⟨ts, qs, l', e1, e2, e3, e4, e5, e6, e7⟩ := fill_of I h2 r2 e (RepK.put hk rk rd ha) (PairedX.put (k := nk k) (a := ka) rdu px) (sput_nodup _ _ _ _ nd)
          refine ⟨t :: ts, (nk k, ka, du) :: qs, l', by rw [e1]; rfl, by rw [List.length_cons, List.length_cons, e2], fun j q hq => ?_, fun q hq => ?_, e5, ?_, ?_⟩
          · cases j with
            | zero => simp at hq; subst hq; exact pa
            | succ j => exact e3 j q (by simpa using hq)
          · rcases List.mem_cons.mp hq with rfl | hq
            · exact Rep.is I hk rk
            · exact e4 q hq
          · show PairedX l' (storedAllH (storedH xs (nk k) ka du) qs)
            rw [storedH_sput _ _ _ _ nd]
            exact e6
          · have := sput_len (nk k) ka dv l
            rw [List.length_cons]
            omega
      · cases e
    · cases e
end
section
variable {G : GS} {X : Cx}
variable (hg : GX G X)
include hg
theorem dict_raw (hc : X.calm = true) {pins : List (Addr × Obj)} {s : Shared} {σ : St} {H : Hp} {Z : Addr → Prop} {Q : VK} {a : Addr} {vs : List V} {its : List Value} {ds : List PL.D} {kvs : List (PL.D × PL.D)} {T : String} (I : L2.Inv X pins σ H s)
    (ht : (T = "tuple" ∧ PlainSeq "tuple" s.heap a its.toArray) ∨ (T = "list" ∧ PlainSeq "list" s.heap a its.toArray)) (rv : Vals vs its) (r1 : G.RL H Z ds vs) (l1 : vs.length ≤ sizeLine) (e : PL.dfill ds [] = some kvs)
    (q : ∀ v H', (∀ a o, H a = some o → H' a = some o) → ResA G H H' Z (.f (.k kvs)) v → Q v H') : wpAny (model X.prog X.w) X.A (call (.type "dict") [.ref a]) (EP X pins σ Q) X.xe s := by
  obtain ⟨P, w, K, T', LA, IO, nl, nt, nd⟩ := G
  obtain ⟨rfl, rfl, rfl, hu⟩ := hg
  obtain ⟨ts, qs, l, e1, e2, e3, e4, e5, e6, e7⟩ := fill_of (P := X.prog) (w := X.w) I r1 rv e (l := []) (xs := []) (by simp only [RepK]) .nil (by simp)
  subst e1
  have hm : (s.heap.objs.size == sysModules) = false := beq_eq_false_iff_ne.mpr (Nat.ne_of_gt I.big)
  have hz : qs.length ≤ sizeLine := by
    rw [← e2]
    have := rv.length
    rw [List.length_map] at this
    omega
  have pi : PairItems s.heap (ts.map Value.ref).toArray (fun j => ts.getD j 0) (qs.map fun q => (Value.ref q.2.1, q.2.2)) := by
    refine ⟨by simp [e2], fun j k v hj => ?_⟩
    rw [List.getElem?_map] at hj
    cases hq : qs[j]? with
    | none => rw [hq] at hj; cases hj
    | some q =>
      rw [hq] at hj
      cases hj
      refine ⟨?_, e3 j q hq⟩
      have hl : j < ts.length := by rw [e2]; exact (List.getElem?_eq_some_iff.mp hq).1
      simp [hl]
  have ph : PairsHaveH (nestedKind X.prog X.w) (qs.map fun q => (Value.ref q.2.1, q.2.2)).length (PairRel (qs.map fun q => (Value.ref q.2.1, q.2.2))) qs := by
    refine ⟨by simp, fun i key v hi => ?_⟩
    have hi : (qs.map fun q => (Value.ref q.2.1, q.2.2))[i]? = some (key, v) := hi
    rw [List.getElem?_map] at hi
    cases hq : qs[i]? with
    | none => rw [hq] at hi; cases hi
    | some q =>
      rw [hq] at hi
      cases hi
      exact ⟨q.1, q.2.1, rfl, rfl⟩
  have st : KeysStay (nestedKind X.prog X.w) s.heap s.heap.objs.size [] qs := fun h' hk x hx => HeapKind.Stays.all nestedKind_stays h' (fun b o hw e => hk b o (Nat.ne_of_lt (Heap.lt_size e)) hw e) _ _ (e4 x hx)
  have fin : ∀ h' tk, h'.DictOfH (nestedKind X.prog X.w) s.heap.objs.size (storedAllH [] qs) → (∀ b o, b ∉ ([] : List Addr) → s.heap.get? b = some o → h'.get? b = some o) → EP X pins σ Q (.ref s.heap.objs.size) { s with heap := h', toks := tk } := fun h' tk D k => by
    have n := I.hok.fresh (Nat.le_refl s.heap.objs.size)
    have J : L2.Inv X pins σ (upd H s.heap.objs.size (DicO X.prog X.w s.heap.objs.size l)) { s with heap := h', toks := tk } := I.laid (fun b o e => k b o (fun z => nomatch z) e) (Nat.le_refl _) (by
      obtain ⟨o, es, ep, h1, h2, h3, h4, h5, h6⟩ := D
      exact ⟨⟨_, e6, o, es, ep, h1, h2, h3, h4, h6⟩, ⟨o, h1⟩, fun g1 g2 ⟨xs, px, o, es, ep, j1, j2⟩ kk => ⟨xs, px, o, es, ep, kk o j1, j2⟩⟩)
    refine ⟨.ref s.heap.objs.size, _, J, rfl, q _ _ (upd_grow n) ⟨_, rfl, n, l, upd_same, hm, ?_, RepK.ext (ext_upd n) _ _ e5⟩⟩
    have := r1.length
    simp only [List.length_nil, Nat.zero_add] at e7
    omega
  rcases ht with ⟨rfl, hp⟩ | ⟨rfl, hp⟩
  · exact call_dict_pairsH (PairArg.tuple a _ _ _) (I.ok.hd hc) (by show X.A.units + 1 + 1 + 8 < cLine; omega) ⟨hp, pi⟩ ph st (by simpa using hz) fin
  · exact call_dict_pairsH (PairArg.list a _ _ _) (I.ok.hd hc) (by show X.A.units + 1 + 1 + 8 < cLine; omega) ⟨hp, pi⟩ ph st (by simpa using hz) fin
theorem oc_dict (hc : X.calm = true) : CallR X (.type "dict") (c1D G PL.dictD) := by
  intro pins s σ H xs us Q I r h
  obtain ⟨x, rfl, Z, d, z, zin, hx, ez, q⟩ := h
  obtain ⟨u, rfl, rx⟩ := vals1 r
  cases d <;> (first | (cases ez; done) | skip)
  · rename_i ds
    unfold PL.dictD at ez
    dsimp only at ez
    cases e : PL.dfill ds [] with
    | none => rw [e] at ez; cases ez
    | some kvs =>
      rw [e] at ez
      cases ez
      obtain ⟨a, vs, rfl, ⟨o, h1, hd⟩, l1, r1⟩ := vw_tup hx
      cases rx
      obtain ⟨g1, _, its, rv, o', g2, g3, n, g4⟩ := I.hok a _ h1
      rw [g1] at g2
      cases g2
      exact dict_raw hg hc I (.inl ⟨rfl, o, n, g1, g3, hd, g4⟩) rv r1 l1 e q
  · rename_i ds
    unfold PL.dictD at ez
    dsimp only at ez
    cases e : PL.dfill ds [] with
    | none => rw [e] at ez; cases ez
    | some kvs =>
      rw [e] at ez
      cases ez
      obtain ⟨a, vs, rfl, h1, l1, r1⟩ := vw_lst hx
      rw [hg.k] at h1
      cases rx
      obtain ⟨its, rv, ⟨o, n, g1, g3, hd, g4⟩, hs⟩ := I.list h1
      exact dict_raw hg hc I (.inr ⟨rfl, o, n, g1, g3, hd, g4⟩) rv r1 l1 e q
end
end PLS
end

section
set_option Elab.async false
set_option linter.all false
set_option maxRecDepth 100000
set_option maxHeartbeats 4000000
/-! the soundness of P-lang: expressions, one rule each -/
namespace PLS
open PySem PySem.Spec PyProof.Rows L2 PySem.W
section
variable {G : GS} {X : Cx} {W : WX} {σ : St} {H H₀ : Hp} {Z : Addr → Prop} {ρ ρ1 : PL.Env} {pos p p2 : Pos} {a b c : Expr} {ra rb rc : PL.Ev PL.AV}
theorem ra_bl {k : Bool} : RepA G H₀ H Z σ ρ (.v (.bl k)) (.bl k) := r_bl (G := G) (H := H) (Z := Z)
/-- without a step -/
theorem tE_here {r : PL.Ev PL.AV} {av : PL.AV} {v : V} {Q : VK} (h : tE G W r σ H Q) (e : ∀ ρ x, r ρ = .ok x → x.2 = ρ ∧ x.1 = av) (n : ∀ ρ, ∃ x, r ρ = .ok x) (hv : ∀ Z ρ, REnv G H Z σ ρ → RepA G H H Z σ ρ av v) : Q v H := by
  obtain ⟨Z, ρ, I, o⟩ := h
  obtain ⟨x, ex⟩ := n ρ
  obtain ⟨e1, e2⟩ := e ρ x ex
  obtain ⟨a, ρ'⟩ := x
  dsimp only at e1 e2
  subst e1 e2
  rw [ex] at o
  exact o v H Z (Step.refl I) (hv Z ρ' I)
theorem tE_con {av : PL.AV} {v : V} {Q : VK} (h : tE G W (PL.evK av) σ H Q) (hv : ∀ Z ρ, REnv G H Z σ ρ → RepA G H H Z σ ρ av v) : Q v H :=
  tE_here h (fun ρ x ex => by cases ex; exact ⟨rfl, rfl⟩) (fun ρ => ⟨_, rfl⟩) hv
def conV : PL.D → Option V
  | .non => some .non
  | .bl b => some (.bl b)
  | .int i => some (.int i)
  | .str x => some (.str ⟨x.toArray⟩)
  | _ => none
theorem conV_rep {d : PL.D} {v : V} (e : conV d = some v) : G.R H Z d v := by
  cases d <;> cases e <;> simp only [GS.R, Rep]
theorem se_con {d : PL.D} {v : V} (e : conV d = some v) (h : PE X a (tC v)) : PE X a (tE G W (PL.evK (.v d))) := h.imq fun σ H Q q => tE_con q fun Z ρ I => conV_rep e
theorem se_glo {i : Int} (h : PE X a (tC (.int i))) : PE X a (tE G W (PL.evK (.v (.int i)))) := se_con rfl h
theorem se_fnv {x : String} (h : PE X a (tC (.ref (He.ga G.K (Str.ofString x))))) : PE X a (tE G W (PL.evK (.v (.fn x)))) := h.imq fun σ H Q q => tE_con q fun Z ρ I => by
  show G.R H Z (.fn x) _
  simp only [GS.R, Rep]
theorem se_var {i : Nat} (h : PE X a (tVar i)) : PE X a (tE G W fun ρ => match PL.slot ρ i with
    | some (.d x) => .ok (.v x, ρ)
    | some (.w _) => .ok (.r i, ρ)
    | some (.ali _ _) => .ok (.r i, ρ)
    | _ => .stuck) := h.imq fun σ H Q q => by
  obtain ⟨Z, ρ, I, o⟩ := q
  dsimp only at o
  cases es : PL.slot ρ i with
  | none => rw [es] at o; exact o.elim
  | some s =>
    obtain ⟨v, h1, h2⟩ := I.at_ i s (slot_some.mp es)
    rw [es] at o
    cases s with
    | d x => exact ⟨v, h1, o v H Z (Step.refl I) h2⟩
    | w x => exact ⟨v, h1, o v H Z (Step.refl I) h1⟩
    | lam n => exact o.elim
    | ali j k => exact ⟨v, h1, o v H Z (Step.refl I) h1⟩
theorem se_bin (hg : GX G X) (op : PL.Bin) (ha : PE X a (tE G W ra)) (hb : PE X b (tE G W rb)) : PE X (.BinOp a (bop op) b pos) (tE G W (PL.ev2 ra rb (PL.binD op))) := (pe_op (ob_bin hg op) ha hb).imq fun σ H Q h => ev2_r h
theorem bool_v {av : PL.AV} {v : V} {k : Bool} (I : REnv G H Z σ ρ) (h : RepA G H₀ H Z σ ρ av v) (e : PL.boolR ρ av = .ok k) : v = .bl k := by
  unfold PL.boolR at e
  split at e
  · cases e
    have h : G.R H Z (.bl k) v := h
    simpa only [GS.R, Rep] using h
  · rename_i i
    split at e
    · rename_i b hs
      cases e
      obtain ⟨u, h1, h2⟩ := I.at_ i _ (slot_some.mp hs)
      have h : σ[i]? = some (some v) := h
      rw [h] at h1
      cases h1
      have h2 : G.R H Z (.bl k) v := h2
      simpa only [GS.R, Rep] using h2
    · cases e
  · cases e
theorem boolR_ok {av : PL.AV} {α : Type} {f : Bool → PL.Res (α × PL.Env)} {ok : α → PL.Env → Prop} {ρ2 : PL.Env} (o : Outc G W H σ ρ ((PL.boolR ρ2 av).bind f) ok) : ∃ k, PL.boolR ρ2 av = .ok k ∧ Outc G W H σ ρ (f k) ok := by
  cases e : PL.boolR ρ2 av with
  | ok k => rw [e] at o; exact ⟨k, rfl, o⟩
  | stuck => rw [e] at o; exact o.elim
  | exc cl ps =>
    unfold PL.boolR at e
    split at e
    · cases e
    · split at e <;> cases e
    · cases e
/-- as a test -/
theorem evT_r {Q : Bool → Hp → Prop} (h : tB G W (PL.evT ra) σ H Q) : tE G W ra σ H fun x H1 => ∃ k, x = .bl k ∧ Q k H1 := by
  obtain ⟨Z, ρ, I, o⟩ := h
  refine ⟨Z, ρ, I, o.bind.mono fun av ρ1 o1 v H1 Z1 s1 r1 => ?_⟩
  obtain ⟨k, ek, o2⟩ := boolR_ok o1
  exact ⟨k, bool_v s1.env r1 ek, o2 H1 Z1 s1⟩
theorem st_val (ha : PE X a (tE G W ra)) (he : ∀ whole, isTrue a X.env whole = (do let v ← whole; standAt a.pos; holding [v] (truthy v))) : PT X a (tB G W (PL.evT ra)) := (pt_val ha he).imq fun σ H Q h => evT_r h
/-- a choice by a test -/
theorem evIf_r {α : Type} {rt : PL.Ev Bool} {r1 r2 : PL.Ev α} {ok : α → PL.Env → Hp → (Addr → Prop) → Prop} {Z : Addr → Prop} {ρ : PL.Env} (I : REnv G H Z σ ρ)
    (o : Outc G W H σ ρ (PL.evIf rt r1 r2 ρ) fun x ρ' => ∀ H' Z', Step G H Z σ ρ H' Z' σ ρ' → ok x ρ' H' Z') :
    Outc G W H σ ρ (rt ρ) fun k ρ1 => ∀ H1 Z1, Step G H Z σ ρ H1 Z1 σ ρ1 → Outc G W H1 σ ρ1 (if k = true then r1 ρ1 else r2 ρ1) fun x ρ' => ∀ H' Z', Step G H1 Z1 σ ρ1 H' Z' σ ρ' → ok x ρ' H' Z' :=
  o.bind.mono fun k ρ1 o1 H1 Z1 s1 => (o1.at s1).mono fun x ρ' o2 H' Z' s2 => o2 H' Z' (s1.trans s2)
theorem tE_from {r : PL.Ev PL.AV} {Q : VK} {H1 : Hp} {Z1 : Addr → Prop} {ρ1 : PL.Env} (s1 : Step G H Z σ ρ H1 Z1 σ ρ1)
    (o : Outc G W H1 σ ρ1 (r ρ1) fun av ρ' => ∀ v H' Z', Step G H Z σ ρ H' Z' σ ρ' → RepA G H H' Z' σ ρ' av v → Q v H') : tE G W r σ H1 Q :=
  ⟨Z1, ρ1, s1.env, o.mono fun av ρ' o2 v H' Z' s2 r2 => o2 v H' Z' (s1.trans s2) (r2.from s1.live)⟩
theorem se_ite {ct : Expr} {rt : PL.Ev Bool} (hc : PT X ct (tB G W rt)) (ha : PE X a (tE G W ra)) (hb : PE X b (tE G W rb)) : PE X (.IfExp ct a b pos) (tE G W (PL.evIf rt ra rb)) := (pe_ifExp hc ha hb).imq fun σ H Q h => by
  obtain ⟨Z, ρ, I, o⟩ := h
  refine ⟨Z, ρ, I, o.bind.mono fun k ρ1 o1 H1 Z1 s1 => ?_⟩
  cases k with
  | true => exact tE_from s1 (o1.at s1)
  | false => exact tE_from s1 (o1.at s1)
theorem evT_from {r : PL.Ev Bool} {Q : Bool → Hp → Prop} {H1 : Hp} {Z1 : Addr → Prop} {ρ1 : PL.Env} (s1 : Step G H Z σ ρ H1 Z1 σ ρ1)
    (o : Outc G W H1 σ ρ1 (r ρ1) fun k ρ' => ∀ H' Z', Step G H Z σ ρ H' Z' σ ρ' → Q k H') : tB G W r σ H1 Q :=
  ⟨Z1, ρ1, s1.env, o.mono fun k ρ' o2 H' Z' s2 => o2 H' Z' (s1.trans s2)⟩
/-- not as a test, as a value -/
theorem st_not {rt : PL.Ev Bool} (ha : PT X a (tB G W rt)) : PT X (.UnaryOp .Not a pos) (tB G W (PL.evT (PL.evBl (PL.evIf rt (PL.evK false) (PL.evK true))))) := (pt_not ha).imq fun σ H Q h => by
  obtain ⟨Z, ρ, I, o⟩ := h
  refine ⟨Z, ρ, I, o.bind.bind.bind.mono fun k ρ1 o1 H1 Z1 s1 => ?_⟩
  cases k with
  | true => exact o1 H1 Z1 s1
  | false => exact o1 H1 Z1 s1
theorem se_not (ha : PE X a (tE G W ra)) : PE X (.UnaryOp .Not a pos) (tE G W (PL.evBl (PL.evIf (PL.evT ra) (PL.evK false) (PL.evK true)))) := (pe_not ha).imq fun σ H Q h => by
  obtain ⟨Z, ρ, I, o⟩ := h
  refine ⟨Z, ρ, I, o.bind.bind.bind.mono fun av ρ1 o1 v H1 Z1 s1 r1 => ?_⟩
  obtain ⟨k, ek, o2⟩ := boolR_ok o1
  refine ⟨k, bool_v s1.env r1 ek, ?_⟩
  cases k with
  | true => exact o2 _ H1 Z1 s1 ra_bl
  | false => exact o2 _ H1 Z1 s1 ra_bl
theorem se_and {rest : List Expr} (ha : PE X a (tE G W ra)) (hb : PE X (.BoolOp .And (b :: rest) pos) (tE G W rb)) : PE X (.BoolOp .And (a :: b :: rest) pos) (tE G W (PL.evIf (PL.evT ra) rb (PL.evK (.v (.bl false))))) := (pe_and ha hb).imq fun σ H Q h => by
  obtain ⟨Z, ρ, I, o⟩ := h
  refine ⟨Z, ρ, I, o.bind.bind.mono fun av ρ1 o1 v H1 Z1 s1 r1 => ?_⟩
  obtain ⟨k, ek, o2⟩ := boolR_ok o1
  refine ⟨k, bool_v s1.env r1 ek, ?_⟩
  cases k with
  | true => exact tE_from s1 (o2.at s1)
  | false => exact o2 _ H1 Z1 s1 ra_bl
theorem se_or {rest : List Expr} (ha : PE X a (tE G W ra)) (hb : PE X (.BoolOp .Or (b :: rest) pos) (tE G W rb)) : PE X (.BoolOp .Or (a :: b :: rest) pos) (tE G W (PL.evIf (PL.evT ra) (PL.evK (.v (.bl true))) rb)) := (pe_or ha hb).imq fun σ H Q h => by
  obtain ⟨Z, ρ, I, o⟩ := h
  refine ⟨Z, ρ, I, o.bind.bind.mono fun av ρ1 o1 v H1 Z1 s1 r1 => ?_⟩
  obtain ⟨k, ek, o2⟩ := boolR_ok o1
  refine ⟨k, bool_v s1.env r1 ek, ?_⟩
  cases k with
  | true => exact o2 _ H1 Z1 s1 ra_bl
  | false => exact tE_from s1 (o2.at s1)
theorem sw_and {rest : List Expr} {rt : PL.Ev Bool} (ha : PT X a (tB G W rt)) (hb : PW X (.BoolOp .And (b :: rest) pos) (tB G W (PL.evT rb))) : PW X (.BoolOp .And (a :: b :: rest) pos) (tB G W (PL.evT (PL.evIf rt rb (PL.evK (.v (.bl false)))))) := (pw_and ha hb).imq fun σ H Q h => by
  obtain ⟨Z, ρ, I, o⟩ := h
  refine ⟨Z, ρ, I, o.bind.bind.mono fun k ρ1 o1 H1 Z1 s1 => ?_⟩
  cases k with
  | true => exact evT_from s1 ((Outc.join o1 : Outc G W H σ ρ (PL.evT rb ρ1) _).at s1)
  | false => exact o1 H1 Z1 s1
theorem sw_or {rest : List Expr} {rt : PL.Ev Bool} (ha : PT X a (tB G W rt)) (hb : PW X (.BoolOp .Or (b :: rest) pos) (tB G W (PL.evT rb))) : PW X (.BoolOp .Or (a :: b :: rest) pos) (tB G W (PL.evT (PL.evIf rt (PL.evK (.v (.bl true))) rb))) := (pw_or ha hb).imq fun σ H Q h => by
  obtain ⟨Z, ρ, I, o⟩ := h
  refine ⟨Z, ρ, I, o.bind.bind.mono fun k ρ1 o1 H1 Z1 s1 => ?_⟩
  cases k with
  | true => exact o1 H1 Z1 s1
  | false => exact evT_from s1 ((Outc.join o1 : Outc G W H σ ρ (PL.evT rb ρ1) _).at s1)
/-- comparisons -/
theorem cmp_r {op : PL.Cmp} {Q : VK} (h : tE G W (PL.ev2 ra rb fun x y => (PL.cmpD op x y).map fun z => .v (.bl z)) σ H Q) : tOp (r2C G (PL.cmpD op)) (tE G W ra) (tE G W rb) σ H Q := by
  obtain ⟨Z, ρ, I, o⟩ := ev2_r h
  exact ⟨Z, ρ, I, o.mono fun av ρ1 o1 v H1 Z1 s1 r1 => (by
    obtain ⟨Z2, ρ2, I2, o2⟩ := o1 v H1 Z1 s1 r1
    exact ⟨Z2, ρ2, I2, o2.mono fun bv ρ3 o3 u H3 Z3 s3 r3 => r2C_of (o3 u H3 Z3 s3 r3)⟩)⟩
theorem se_cmp (hg : GX G X) {op : PL.Cmp} (ha : PE X a (tE G W ra)) (hb : PE X b (tE G W rb)) (hm : behindInMarks (cop op) b = false) : PE X (.Compare a [cop op] [b] pos) (tE G W (PL.ev2 ra rb fun x y => (PL.cmpD op x y).map fun z => .v (.bl z))) :=
  (pe_cmpR (oc_cmp hg op) ha hb hm).imq fun σ H Q h => cmp_r h
theorem st_cmp (hg : GX G X) {op : PL.Cmp} (ha : PE X a (tE G W ra)) (hb : PE X b (tE G W rb)) (hm : behindInMarks (cop op) b = false) : PT X (.Compare a [cop op] [b] pos) (tB G W (PL.evT (PL.ev2 ra rb fun x y => (PL.cmpD op x y).map fun z => .v (.bl z)))) :=
  (pt_cmpR (oc_cmp hg op) ha hb hm).imq fun σ H Q h => cmp_r (evT_r h)
theorem chain_r {op op' : PL.Cmp} {Q : VK} (h : tE G W (PL.chainD op op' ra rb rc) σ H Q) : tChain (r2C G (PL.cmpD op)) (r2C G (PL.cmpD op')) (tE G W ra) (tE G W rb) (tE G W rc) σ H Q := by
  obtain ⟨Z, ρ, I, o⟩ := h
  refine ⟨Z, ρ, I, o.bind.mono fun av ρ1 o1 v H1 Z1 s1 r1 => ?_⟩
  refine ⟨Z1, ρ1, s1.env, (o1.bind.at s1).mono fun bv ρ2 o2 u H2 Z2 s2 r2 => ?_⟩
  obtain ⟨dx, ex, o3⟩ := o2.ofO
  obtain ⟨dy, ey, o4⟩ := o3.ofO
  obtain ⟨z, ez, o5⟩ := o4.ofO
  have s12 := s1.trans s2
  refine ⟨Z2, dx, dy, z, s2.env.zin, look_view s2.env (r1.step s1.env s2) ex, look_view s2.env r2 ey, ez, z, rfl, ?_⟩
  cases z with
  | false => exact o5 _ H2 Z2 s12 ra_bl
  | true =>
    refine ⟨Z2, ρ2, s2.env, (o5.bind.at s12).mono fun cv ρ3 o6 u3 H3 Z3 s3 r3 => ?_⟩
    obtain ⟨dy', ey', o7⟩ := o6.ofO
    obtain ⟨dz, ez', o8⟩ := o7.ofO
    obtain ⟨z', e8, o9⟩ := o8.ofO
    exact ⟨Z3, dy', dz, z', s3.env.zin, look_view s3.env (r2.step s2.env s3) ey', look_view s3.env r3 ez', e8, o9 _ H3 Z3 (s12.trans s3) ra_bl⟩
theorem se_chain (hg : GX G X) {op op' : PL.Cmp} (ha : PE X a (tE G W ra)) (hb : PE X b (tE G W rb)) (hc : PE X c (tE G W rc)) (hm : lastMarks [cop op, cop op'] [b, c] = false) : PE X (.Compare a [cop op, cop op'] [b, c] pos) (tE G W (PL.chainD op op' ra rb rc)) :=
  (pe_chain (oc_cmp hg op) (oc_cmp hg op') ha hb hc hm).imq fun σ H Q h => chain_r h
theorem st_chain (hg : GX G X) {op op' : PL.Cmp} (ha : PE X a (tE G W ra)) (hb : PE X b (tE G W rb)) (hc : PE X c (tE G W rc)) (hm : lastMarks [cop op, cop op'] [b, c] = false) : PT X (.Compare a [cop op, cop op'] [b, c] pos) (tB G W (PL.evT (PL.chainD op op' ra rb rc))) :=
  (pt_chain (oc_cmp hg op) (oc_cmp hg op') ha hb hc hm).imq fun σ H Q h => chain_r (evT_r h)
/-- places, slices -/
theorem se_sub (hg : GX G X) (ha : PE X a (tE G W ra)) (hb : PE X b (tE G W rb)) (hs : PlainIx b) : PE X (.Subscript a b pos) (tE G W (PL.ev2 ra rb fun x y => (PL.subD x y).map .v)) := (pe_ix (oi_sub hg) ha hb hs).imq fun σ H Q h => ev2_r h
theorem Outc.take {av : PL.AV} {ok : PL.D → PL.Env → Prop} (o : Outc G W H σ ρ (PL.takeR ρ1 av) ok) : ∃ d ρ2, PL.take ρ1 av = some (d, ρ2) ∧ ok d ρ2 := by
  unfold PL.takeR at o
  cases e : PL.take ρ1 av with
  | none => rw [e] at o; exact o.elim
  | some x => rw [e] at o; obtain ⟨d, ρ2⟩ := x; exact ⟨d, ρ2, rfl, o⟩
/-- taken -/
theorem evD_r {Q : VK} (h : tD G W (PL.evD ra) σ H Q) : tE G W ra σ H Q := by
  obtain ⟨Z, ρ, I, o⟩ := h
  refine ⟨Z, ρ, I, o.bind.mono fun av ρ1 o1 v H1 Z1 s1 r1 => ?_⟩
  obtain ⟨d, ρ2, e2, o2⟩ := Outc.take o1
  obtain ⟨Z2, s2, r2⟩ := take_step s1 r1 e2
  exact o2 v H1 Z2 s2 r2
theorem se_d (ha : PE X a (tE G W ra)) : PE X a (tD G W (PL.evD ra)) := ha.imq fun σ H Q h => evD_r h
/-- lists of items -/
theorem sa_nil : PA X [] (tDs G W (PL.evK [])) := pa_nil.imq fun σ H Q h => by
  obtain ⟨Z, ρ, I, o⟩ := h
  exact o [] H Z (Step.refl I) RepL.nil
theorem sa_cons {es : List Expr} {rs : PL.Ev (List PL.D)} (ha : PE X a (tE G W ra)) (hr : PA X es (tDs G W rs)) (hs : starEach (a :: es) X.env = (false, eval a X.env) :: starEach es X.env) :
    PA X (a :: es) (tDs G W fun ρ => (PL.evD ra ρ).bind fun (d, ρ2) => (rs ρ2).bind fun (ds, ρ3) => .ok (d :: ds, ρ3)) := (pa_cons (se_d ha) hr hs).imq fun σ H Q h => by
  obtain ⟨Z, ρ, I, o⟩ := h
  refine ⟨Z, ρ, I, o.bind.mono fun d ρ1 o1 v H1 Z1 s1 r1 => ?_⟩
  exact ⟨Z1, ρ1, s1.env, (o1.bind.at s1).mono fun ds ρ2 o2 vs H2 Z2 s2 r2 => o2 (v :: vs) H2 Z2 (s1.trans s2) (RepL.cons (Rep.ext (s2.ext s1.env) _ _ r1) r2)⟩
/-- *x, of a list or tuple -/
theorem sa_star {es : List Expr} {rs : PL.Ev (List PL.D)} (hg : GX G X) (ha : PE X a (tE G W ra)) (hr : PA X es (tDs G W rs)) (hs : starEach (.Starred a p :: es) X.env = (true, eval a X.env) :: starEach es X.env) :
    PA X (.Starred a p :: es) (tDs G W fun ρ => (PL.evV ra ρ).bind fun (d, ρ1) => (PL.ofO (PL.seqD d)).bind fun xs => (rs ρ1).bind fun (ds, ρ2) => .ok (xs ++ ds, ρ2)) := (StX.pa_star ha hr hs).imq fun σ H Q h => by
  obtain ⟨Z, ρ, I, o⟩ := h
  refine ⟨Z, ρ, I, o.bind.bind.mono fun av ρ1 o1 v H1 Z1 s1 r1 => ?_⟩
  obtain ⟨d, ed, o2⟩ := o1.ofO
  obtain ⟨xs, ex, o3⟩ := (show Outc G W H σ ρ ((PL.ofO (PL.seqD d)).bind _) _ from o2).ofO
  have vw := look_view s1.env r1 ed
  obtain ⟨a, vs, ev, sq, rl⟩ : ∃ (a : Addr) (vs : List V), v = .ref a ∧ (SqT X.K H1 a vs ∨ SqL X.K H1 a vs) ∧ G.RL H1 Z1 xs vs := by
    cases d <;> cases ex
    · obtain ⟨a, vs, e, q1, _, q2⟩ := vw_tup vw
      exact ⟨a, vs, e, .inl q1.sq, q2⟩
    · obtain ⟨a, vs, e, q1, _, q2⟩ := vw_lst vw
      rw [hg.k] at q1
      exact ⟨a, vs, e, .inr q1, q2⟩
  refine ⟨a, vs, ev, sq, ?_⟩
  exact ⟨Z1, ρ1, s1.env, (o3.bind.at s1).mono fun ds ρ2 o4 ws H2 Z2 s2 r2 => o4 (vs ++ ws) H2 Z2 (s1.trans s2) (RepL.append (RepL.ext (s2.ext s1.env) _ _ rl) r2)⟩
theorem if_ok {α : Type} {c : Prop} [Decidable c] {x : PL.Res (α × PL.Env)} {ok : α → PL.Env → Prop} (o : Outc G W H σ ρ (if c then x else .stuck) ok) : c ∧ Outc G W H σ ρ x ok := by
  split at o
  · rename_i hc; exact ⟨hc, o⟩
  · exact o.elim
theorem se_tup {es : List Expr} {k : Nat} {rs : PL.Ev (List PL.D)} (h : PA X es (tDs G W rs)) : PE X (.Tuple es k pos) (tE G W fun ρ => (rs ρ).bind fun (ds, ρ1) => if ds.length ≤ PL.lineN then .ok (.v (.tup ds), ρ1) else .stuck) := (pe_tupF h).imq fun σ H Q h => by
  obtain ⟨Z, ρ, I, o⟩ := h
  refine ⟨Z, ρ, I, o.bind.mono fun ds ρ1 o1 vs H1 Z1 s1 r1 => ?_⟩
  obtain ⟨few, o2⟩ := if_ok o1
  have few' : vs.length ≤ sizeLine := by rw [← r1.length, ← line_eq]; exact few
  exact ⟨few', res_tup (Q := Q) few' r1 fun v H' g r => o2 v H' Z1 (s1.trans (s1.env.grow g)) r⟩
theorem se_lst {es : List Expr} {rs : PL.Ev (List PL.D)} (h : PA X es (tDs G W rs)) : PE X (.List es pos) (tE G W fun ρ => (rs ρ).bind fun (ds, ρ1) => if ds.length ≤ PL.lineN then .ok (.f (.l ds), ρ1) else .stuck) := (pe_lst h).imq fun σ H Q h => by
  obtain ⟨Z, ρ, I, o⟩ := h
  refine ⟨Z, ρ, I, o.bind.mono fun ds ρ1 o1 vs H1 Z1 s1 r1 => ?_⟩
  obtain ⟨few, o2⟩ := if_ok o1
  have few' : vs.length ≤ sizeLine := by rw [← r1.length, ← line_eq]; exact few
  exact ⟨few', fun p n => o2 _ _ Z1 (s1.trans (s1.env.grow (upd_grow n))) (ResA.repA s1 (res_lst n few' r1))⟩
/-- a builtin of one argument -/
theorem c1_r {k : PL.D → Option PL.AV} {Q : VK} (h : tE G W (PL.ev1 ra k) σ H Q) : tCB (c1D G k) (tCons (tE G W ra) tNil) σ H Q := by
  obtain ⟨Z, ρ, I, o⟩ := ev1_r h
  exact ⟨Z, ρ, I, o.mono fun av ρ' o1 v H' Z' s r => ⟨v, rfl, o1 v H' Z' s r⟩⟩
theorem se_b1 {x : Str} {id : String} {k : PL.D → Option PL.AV} (hc : CallR X (.builtin id) (c1D G k)) (hgl : Gl X x) (hm : X.mg x = none) (hv : bootBuiltins x = some (.builtin id)) (ha : PE X a (tE G W ra)) (hn : x ≠ "__name__") (hdb : (x == ("__debug__" : Str)) = false)
    (h1 : starEach [a] X.env = (false, eval a X.env) :: starEach [] X.env) : PE X (.Call (.Name x p) [a] [] pos) (tE G W (PL.ev1 ra k)) := (pe_callB hc hgl hm hv (pa_cons ha pa_nil h1) hn hdb h1 rfl).imq fun σ H Q h => c1_r h
theorem se_b1t {x : Str} {T : String} {k : PL.D → Option PL.AV} (hc : CallR X (.type T) (c1D G k)) (hgl : Gl X x) (hm : X.mg x = none) (hv : bootBuiltins x = some (.type T)) (ha : PE X a (tE G W ra)) (hn : x ≠ "__name__") (hdb : (x == ("__debug__" : Str)) = false)
    (h1 : starEach [a] X.env = (false, eval a X.env) :: starEach [] X.env) : PE X (.Call (.Name x p) [a] [] pos) (tE G W (PL.ev1 ra k)) := (pe_callTy hc hgl hm hv (pa_cons ha pa_nil h1) hn hdb h1 rfl).imq fun σ H Q h => c1_r h
theorem se_min2 {k : PL.D → PL.D → Option PL.AV} {x : Str} {id : String} (hc : CallR X (.builtin id) (c2D G k)) (hgl : Gl X x) (hm : X.mg x = none) (hv : bootBuiltins x = some (.builtin id)) (ha : PE X a (tE G W ra)) (hb : PE X b (tE G W rb)) (hn : x ≠ "__name__") (hdb : (x == ("__debug__" : Str)) = false)
    (h1 : starEach [a, b] X.env = (false, eval a X.env) :: starEach [b] X.env) (h2 : starEach [b] X.env = (false, eval b X.env) :: starEach [] X.env) : PE X (.Call (.Name x p) [a, b] [] pos) (tE G W (PL.ev2 ra rb k)) :=
  (pe_callB hc hgl hm hv (pa_cons ha (pa_cons hb pa_nil h2) h1) hn hdb h1 (by rw [h2]; rfl)).imq fun σ H Q h => by
    obtain ⟨Z, ρ, I, o⟩ := ev2_r h
    exact ⟨Z, ρ, I, o.mono fun av ρ' o1 v H' Z' s r => by
      obtain ⟨Z2, ρ2, I2, o2⟩ := o1 v H' Z' s r
      exact ⟨Z2, ρ2, I2, o2.mono fun bv ρ3 o3 u H3 Z3 s3 r3 => ⟨v, u, rfl, o3 u H3 Z3 s3 r3⟩⟩⟩
end
end PLS
end

section
set_option Elab.async false
set_option linter.all false
set_option maxRecDepth 100000
set_option maxHeartbeats 4000000
/-! the soundness of P-lang: targets, sources, comprehensions -/
namespace PLS
open PySem PySem.Spec PyProof.Rows L2 PySem.W
section
variable {G : GS} {X : Cx} {W : WX} {σ σ' : St} {H H' H₀ : Hp} {Z Z' : Addr → Prop} {ρ ρ' ρ1 : PL.Env} {pos p p2 : Pos} {a b c : Expr} {ra rb rc : PL.Ev PL.AV}
/-- what the heap does by itself; O, O': what is owned -/
structure HStep (H : Hp) (Z O : Addr → Prop) (H' : Hp) (Z' O' : Addr → Prop) : Prop where
  zz : ∀ a, Z a → Z' a
  zn : ∀ a, Z' a → Z a ∨ H a = none ∨ O a
  keep : ∀ a o, H a = some o → ¬ O a → (∀ ps, o ≠ .tbl ps) → H' a = some o
  own : ∀ a, O' a → O a ∨ H a = none
  live : ∀ a, H' a = none → H a = none
theorem Step.h {σ' : St} (s : Step G H Z σ ρ H' Z' σ' ρ') : HStep H Z (Own σ ρ) H' Z' (Own σ' ρ') := ⟨s.zz, s.zn, s.keep, s.own, s.live⟩
theorem HStep.step {σ' : St} (h : HStep H Z (Own σ ρ) H' Z' (Own σ' ρ')) (e : REnv G H' Z' σ' ρ') (f : ∀ i ∈ G.IO, σ'[i]? = σ[i]?) : Step G H Z σ ρ H' Z' σ' ρ' := ⟨e, h.zz, h.zn, h.keep, h.own, h.live, f⟩
theorem HStep.refl {O : Addr → Prop} : HStep H Z O H Z O := ⟨fun _ h => h, fun _ h => .inl h, fun _ _ h _ _ => h, fun _ h => .inl h, fun _ h => h⟩
theorem HStep.trans {H1 H2 : Hp} {Z1 Z2 O O1 O2 : Addr → Prop} (x : HStep H Z O H1 Z1 O1) (y : HStep H1 Z1 O1 H2 Z2 O2) : HStep H Z O H2 Z2 O2 where
  zz := fun a h => y.zz a (x.zz a h)
  zn := fun a h => by
    rcases y.zn a h with h | h | h
    · exact x.zn a h
    · exact .inr (.inl (x.live a h))
    · exact (x.own a h).elim (fun z => .inr (.inr z)) fun z => .inr (.inl z)
  keep := fun a o h n t => y.keep a o (x.keep a o h n t) (fun z => (x.own a z).elim n fun e => by rw [h] at e; cases e) t
  own := fun a h => by
    rcases y.own a h with h | h
    · exact x.own a h
    · exact .inr (x.live a h)
  live := fun a h => x.live a (y.live a h)
/-- less is owned at the end -/
theorem HStep.less {O O' O'' : Addr → Prop} (x : HStep H Z O H' Z' O') (h : ∀ a, O'' a → O' a) : HStep H Z O H' Z' O'' := ⟨x.zz, x.zn, x.keep, fun a z => x.own a (h a z), x.live⟩
/-- more was owned at the start -/
theorem HStep.more {O O' O'' : Addr → Prop} (x : HStep H Z O H' Z' O') (h : ∀ a, O a → O'' a) : HStep H Z O'' H' Z' O' :=
  ⟨x.zz, fun a z => (x.zn a z).imp id (Or.imp id (h a)), fun a o e n t => x.keep a o e (fun z => n (h a z)) t, fun a z => (x.own a z).imp (h a) id, x.live⟩

/-! ### slots -/
theorem REnv.set (I : REnv G H Z σ ρ) {i : Nat} {d : PL.D} {v : V} (r : G.R H Z d v) : REnv G H Z (σ.set i (some v)) (ρ.set i (some (.d d))) where
  len := by rw [List.length_set, List.length_set]; exact I.len
  at_ := fun j s e => by
    by_cases ij : i = j
    · subst ij
      have hl : i < ρ.length := by
        have := (List.getElem?_eq_some_iff.mp e).1
        rwa [List.length_set] at this
      rw [List.getElem?_set_self hl] at e
      cases e
      exact ⟨v, by rw [List.getElem?_set_self (by rw [I.len]; exact hl)], r⟩
    · rw [List.getElem?_set_ne ij] at e
      obtain ⟨u, h1, h2⟩ := I.at_ j s e
      exact ⟨u, by rw [List.getElem?_set_ne ij]; exact h1, h2⟩
  apart := fun j k x s a h1 h2 h3 h4 h5 => by
    by_cases ij : i = j
    · subst ij
      have hl : i < ρ.length := by
        have := (List.getElem?_eq_some_iff.mp h1).1
        rwa [List.length_set] at this
      rw [List.getElem?_set_self hl] at h1; cases h1
    · by_cases ik : i = k
      · subst ik
        have hl : i < ρ.length := by
          have := (List.getElem?_eq_some_iff.mp h2).1
          rwa [List.length_set] at this
        rw [List.getElem?_set_self hl] at h2; cases h2; exact absurd rfl (h3 _)
      · rw [List.getElem?_set_ne ij] at h1 h4
        rw [List.getElem?_set_ne ik] at h2 h5
        exact I.apart j k x s a h1 h2 h3 h4 h5
  tabs := I.tabs
  zin := I.zin
theorem Own.unset {i : Nat} {d : PL.D} {v : V} {a : Addr} (h : Own (σ.set i (some v)) (ρ.set i (some (.d d))) a) : Own σ ρ a := by
  obtain ⟨j, x, h1, h2⟩ := h
  by_cases ij : i = j
  · subst ij
    have hl : i < ρ.length := by
      have := (List.getElem?_eq_some_iff.mp h1).1
      rwa [List.length_set] at this
    rw [List.getElem?_set_self hl] at h1; cases h1
  · rw [List.getElem?_set_ne ij] at h1 h2
    exact ⟨j, x, h1, h2⟩
/-- several slots, each in its turn -/
def setV : List Nat → List V → St → St
  | i :: is, v :: vs, σ => setV is vs (σ.set i (some v))
  | _, _, σ => σ
theorem REnv.setAll : ∀ {is : List Nat} {xs : List PL.D} {vs : List V} {σ : St} {ρ ρ' : PL.Env}, REnv G H Z σ ρ → G.RL H Z xs vs → PL.setAll is xs ρ = some ρ' → REnv G H Z (setV is vs σ) ρ' ∧ (∀ a, Own (setV is vs σ) ρ' a → Own σ ρ a)
  | [], [], vs, σ, ρ, ρ', I, r, e => by
    cases e
    simp only [GS.RL, RepL] at r
    subst r
    exact ⟨I, fun _ h => h⟩
  | i :: is, x :: xs, vs, σ, ρ, ρ', I, r, e => by
    simp only [GS.RL, RepL] at r
    obtain ⟨v, vs', rfl, r1, r2⟩ := r
    unfold PL.setAll at e
    split at e
    · obtain ⟨h1, h2⟩ := REnv.setAll (I.set (i := i) r1) r2 e
      exact ⟨h1, fun a z => Own.unset (h2 a z)⟩
    · cases e
theorem setV_get {j : Nat} : ∀ {is : List Nat} {vs : List V} {σ : St}, j ∉ is → (setV is vs σ)[j]? = σ[j]?
  | [], _, _, _ => by unfold setV; rfl
  | i :: is, [], _, _ => by unfold setV; rfl
  | i :: is, v :: vs, σ, h => by
    unfold setV
    rw [setV_get (is := is) (vs := vs) fun z => h (List.mem_cons_of_mem _ z), List.getElem?_set_ne fun e => h (by rw [e]; exact List.mem_cons_self)]
theorem setV_len : ∀ {is : List Nat} {vs : List V} {σ : St}, (setV is vs σ).length = σ.length
  | [], _, _ => by unfold setV; rfl
  | i :: is, [], _ => by unfold setV; rfl
  | i :: is, v :: vs, σ => by
    unfold setV
    rw [setV_len (is := is) (vs := vs), List.length_set]
def tgs : PL.Tg → List Nat
  | .one i => [i]
  | .many is => is
/-- what a target does -/
def gD (G : GS) (tg : PL.Tg) : TG := fun v σ H Q => ∃ Z ρ d ρ', REnv G H Z σ ρ ∧ G.R H Z d v ∧ PL.tgSet tg d ρ = some ρ' ∧ ∀ vs, REnv G H Z (setV (tgs tg) vs σ) ρ' → (∀ a, Own (setV (tgs tg) vs σ) ρ' a → Own σ ρ a) → Q (setV (tgs tg) vs σ) H
theorem sg_one {i : Nat} (h : PG X a (gName i)) : PG X a (gD G (.one i)) := ⟨fun pins s σ H v u Q I rv q => h.run pins s σ H v u Q I rv (by
  obtain ⟨Z, ρ, d, ρ', E, r, e, k⟩ := q
  unfold PL.tgSet at e
  dsimp only at e
  split at e
  · cases e
    exact k [v] (E.set r) fun a z => Own.unset z
  · cases e)⟩
/-- the places of the targets -/
def gNames : List Nat → TGs
  | [] => gNil
  | i :: is => gCons (gName i) (gNames is)
theorem gNames_r : ∀ {is : List Nat} {vs : List V} {σ : St} {H : Hp} {Q : St → Hp → Prop}, is.length = vs.length → Q (setV is vs σ) H → gNames is vs σ H Q
  | [], [], _, _, _, _, q => ⟨rfl, q⟩
  | i :: is, v :: vs, σ, H, Q, e, q => ⟨v, vs, rfl, gNames_r (is := is) (vs := vs) (by simpa using e) q⟩
theorem setAll_len : ∀ {is : List Nat} {xs : List PL.D} {ρ ρ' : PL.Env}, PL.setAll is xs ρ = some ρ' → is.length = xs.length
  | [], [], _, _, _ => rfl
  | [], _ :: _, _, _, e => by cases e
  | _ :: _, [], _, _, e => by cases e
  | i :: is, x :: xs, ρ, ρ', e => by
    unfold PL.setAll at e
    split at e
    · rw [List.length_cons, List.length_cons, setAll_len e]
    · cases e
theorem sg_many (hg : GX G X) {is : List Nat} {es : List Expr} {k : Nat} (hc : X.calm = true) (h : PGs X es (gNames is)) (hn : (assignEach es X.env).length = is.length) (hst : (assignEach es X.env).findIdx? (·.1) = none) : PG X (.Tuple es k pos) (gD G (.many is)) :=
  ⟨fun pins s σ H v u Q I rv q => (pg_tup hc h hn hst).run pins s σ H v u Q I rv (by
    obtain ⟨Z, ρ, d, ρ', E, r, e, kk⟩ := q
    unfold PL.tgSet at e
    dsimp only at e
    split at e
    · rename_i xs
      simp only [GS.R, Rep] at r
      obtain ⟨a, vs, rfl, h1, h2, h3⟩ := r
      obtain ⟨E', o⟩ := REnv.setAll E h3 e
      have el : is.length = vs.length := (setAll_len e).trans h3.length
      exact ⟨a, vs, rfl, h1.sq, el.symm, gNames_r el (kk vs E' o)⟩
    · cases e)⟩

/-! ### what is walked -/
/-- J gives vs, one by one -/
def Gives (J : It) (vs : List V) (H : Hp) : Prop := ∀ i, (∀ x, vs[i]? = some x → J.go i H ∧ ∀ y H', J.yld i H y H' → H' = H ∧ y = x) ∧ (vs.length ≤ i → J.stop i H)
def iSrc (G : GS) (W : WX) (r : PL.Ev (List PL.D)) : TI := fun σ H R => ∃ Z ρ, REnv G H Z σ ρ ∧ Outc G W H σ ρ (r ρ) fun xs ρ' => ∀ vs H' Z' J, Step G H Z σ ρ H' Z' σ ρ' → G.RL H' Z' xs vs → (∀ H2 Z2, Ext H' Z' H2 Z2 → Gives J vs H2) → R J H'
theorem gives_t {a : Addr} {vs : List V} {K : PySem.W.Frag} (h : SqT K H a vs) (inj : ∀ ys, SqT K H a ys → ys = vs) : Gives (Itt K a) vs H := fun i => ⟨fun x e => ⟨⟨vs, x, h, e⟩, fun y H' z => ⟨z.1, by
  have := z.2 vs h
  rw [e] at this
  exact (Option.some.inj this).symm⟩⟩, fun l => ⟨vs, h, l⟩⟩
theorem gives_l {a : Addr} {vs : List V} {K : PySem.W.Frag} (h : SqL K H a vs) : Gives (Itl K a) vs H := fun i => ⟨fun x e => ⟨⟨vs, x, h, e⟩, fun y H' z => ⟨z.1, by
  have := z.2 vs h
  rw [e] at this
  exact (Option.some.inj this).symm⟩⟩, fun l => ⟨vs, h, l⟩⟩
theorem gives_t' {a : Addr} {vs : List V} {K : PySem.W.Frag} (h : SqT K H a vs) : Gives (Itt K a) vs H := fun i => ⟨fun x e => ⟨⟨vs, x, h, e⟩, fun y H' z => ⟨z.1, by
  have := z.2 vs h
  rw [e] at this
  exact (Option.some.inj this).symm⟩⟩, fun l => ⟨vs, h, l⟩⟩
theorem PI.imq {tg it : Expr} {w w' : TI} (h : PI X tg it w) (i : ∀ σ H R, w' σ H R → w σ H R) : PI X tg it w' := ⟨fun pins s σ H R I q => h.run pins s σ H R I (i σ H R q)⟩
theorem si_e (hg : GX G X) {tg : Expr} (ha : PE X a (tE G W ra)) : PI X tg a (iSrc G W fun ρ => (PL.evD ra ρ).bind fun (d, ρ2) => (PL.ofO (PL.seqD d)).bind fun xs => .ok (xs, ρ2)) := ⟨fun pins s σ H R I q => by
  obtain ⟨Z, ρ, E, o⟩ := q
  have o := Outc.bind (x := PL.evD ra ρ) o
  cases e : PL.evD ra ρ with
  | stuck => rw [e] at o; exact o.elim
  | exc cl ps =>
    rw [e] at o
    exact (pi_list (se_d ha)).run pins s σ H R I ⟨Z, ρ, E, by rw [e]; exact o⟩
  | ok x =>
    obtain ⟨d, ρ2⟩ := x
    rw [e] at o
    obtain ⟨xs, ex, o2⟩ := (show Outc G W H σ ρ ((PL.ofO (PL.seqD d)).bind _) _ from o).ofO
    cases d <;> cases ex
    · refine (pi_tup (se_d ha)).run pins s σ H R I ⟨Z, ρ, E, ?_⟩
      rw [e]
      intro v H' Z' st r
      simp only [GS.R, Rep] at r
      obtain ⟨l, vs, rfl, h1, h2, h3⟩ := r
      exact ⟨l, rfl, ⟨vs, h1.sq⟩, o2 vs H' Z' _ st h3 fun H2 Z2 x => gives_t' (PlT.ext x h1).sq⟩
    · refine (pi_list (se_d ha)).run pins s σ H R I ⟨Z, ρ, E, ?_⟩
      rw [e]
      intro v H' Z' st r
      simp only [GS.R, Rep] at r
      obtain ⟨l, vs, rfl, z, h1, h2, h3⟩ := r
      rw [hg.k] at h1 z
      exact ⟨l, rfl, ⟨vs, h1⟩, o2 vs H' Z' _ st h3 fun H2 Z2 x => gives_l (SqL.ext x z h1)⟩⟩
theorem gives_r {lo : Int} {n : Nat} {vs : List V} (e : vs = (List.range n).map fun k => V.int (lo + (k : Nat))) : Gives (Itr lo n) vs H := fun i => by
  subst e
  refine ⟨fun x ex => ?_, fun l => (show n ≤ i by simpa using l)⟩
  rw [List.getElem?_map] at ex
  by_cases hi : i < n
  · rw [List.getElem?_range hi] at ex
    cases ex
    exact ⟨hi, fun y H' z => z⟩
  · rw [List.getElem?_eq_none (by simpa using hi)] at ex
    cases ex
theorem rangeL_rep {n : Int} : G.RL H Z (PL.rangeL n) ((List.range n.toNat).map fun k => V.int (0 + (k : Nat))) := by
  unfold PL.rangeL
  induction List.range n.toNat with
  | nil => exact RepL.nil
  | cons x xs ih => exact RepL.cons (by show Rep G.P G.w G.K H Z (.int (Int.ofNat x)) (.int (0 + (x : Int))); rw [Int.zero_add]; exact r_int (G := G)) ih
theorem rangeL2_rep {n m : Int} : G.RL H Z (PL.rangeL2 n m) ((List.range (m - n).toNat).map fun k => V.int (n + (k : Nat))) := by
  unfold PL.rangeL2
  induction List.range (m - n).toNat with
  | nil => exact RepL.nil
  | cons x xs ih => exact RepL.cons (r_int (G := G)) ih
theorem evI_ok {α : Type} {f : Int × PL.Env → PL.Res (α × PL.Env)} {ok : α → PL.Env → Prop} (o : Outc G W H σ ρ ((PL.evI ra ρ').bind f) ok) : Outc G W H σ ρ (ra ρ') fun av ρ1 => ∃ i, av = .v (.int i) ∧ Outc G W H σ ρ (f (i, ρ1)) ok := by
  refine o.bind.bind.mono fun av ρ1 o1 => ?_
  dsimp only at o1
  split at o1
  · exact ⟨_, rfl, o1⟩
  · exact o1.elim
theorem si_rng1 {tg : Expr} (hgl : Gl X "range") (hm : X.mg "range" = none) (ha : PE X a (tE G W ra)) (h1 : starEach [a] X.env = [(false, eval a X.env)]) : PI X tg (.Call (.Name "range" p) [a] [] pos) (iSrc G W fun ρ => (PL.evI ra ρ).bind fun (n, ρ1) => if PL.rngOk n then .ok (PL.rangeL n, ρ1) else .stuck) :=
  PI.imq (pi_range1 hgl hm (pa_cons ha pa_nil h1) h1) fun σ H R h => by
    obtain ⟨Z, ρ, E, o⟩ := h
    refine ⟨Z, ρ, E, (evI_ok o).mono fun av ρ1 ⟨n, e, o1⟩ v H1 Z1 s1 r1 => ?_⟩
    subst e
    have r1 : G.R H1 Z1 (.int n) v := r1
    simp only [GS.R, Rep] at r1
    subst r1
    obtain ⟨hr, o2⟩ := if_ok o1
    unfold PL.rngOk at hr
    rw [Bool.and_eq_true, decide_eq_true_eq, decide_eq_true_eq] at hr
    exact ⟨n, rfl, by omega, by omega, o2 _ H1 Z1 _ s1 rangeL_rep fun H2 Z2 x => gives_r rfl⟩
theorem si_rng2 {tg : Expr} (hgl : Gl X "range") (hm : X.mg "range" = none) (ha : PE X a (tE G W ra)) (hb : PE X b (tE G W rb)) (h1 : starEach [a, b] X.env = [(false, eval a X.env), (false, eval b X.env)]) (h2 : starEach [b] X.env = [(false, eval b X.env)]) :
    PI X tg (.Call (.Name "range" p) [a, b] [] pos) (iSrc G W fun ρ => (PL.evI ra ρ).bind fun (n, ρ1) => (PL.evI rb ρ1).bind fun (m, ρ2) => if PL.rngOk n && PL.rngOk m then .ok (PL.rangeL2 n m, ρ2) else .stuck) :=
  PI.imq (pi_range2 hgl hm (pa_cons ha (pa_cons hb pa_nil h2) (by rw [h1, h2])) h1 h2) fun σ H R h => by
    obtain ⟨Z, ρ, E, o⟩ := h
    refine ⟨Z, ρ, E, (evI_ok o).mono fun av ρ1 ⟨n, e, o1⟩ v H1 Z1 s1 r1 => ?_⟩
    subst e
    have r1 : G.R H1 Z1 (.int n) v := r1
    simp only [GS.R, Rep] at r1
    subst r1
    refine ⟨Z1, ρ1, s1.env, ((evI_ok o1).at s1).mono fun bv ρ2 ⟨m, e, o2⟩ u H2 Z2 s2 r2 => ?_⟩
    subst e
    have r2 : G.R H2 Z2 (.int m) u := r2
    simp only [GS.R, Rep] at r2
    subst r2
    obtain ⟨hr, o3⟩ := if_ok o2
    unfold PL.rngOk at hr
    simp only [Bool.and_eq_true, decide_eq_true_eq] at hr
    exact ⟨n, m, rfl, ⟨by omega, by omega, by omega, by omega⟩, o3 _ H2 Z2 _ (s1.trans s2) rangeL2_rep fun H3 Z3 x => gives_r rfl⟩
end
end PLS
end

section
set_option Elab.async false
set_option linter.all false
set_option maxRecDepth 100000
set_option maxHeartbeats 4000000
/-! the soundness of P-lang: comprehensions -/
namespace PLS
open PySem PySem.Spec PyProof.Rows L2 PySem.W
section
variable {G : GS} {X : Cx} {W : WX} {σ σ' : St} {H H' H₀ : Hp} {Z Z' : Addr → Prop} {ρ ρ' ρ1 : PL.Env} {pos p p2 : Pos} {a b c : Expr} {ra rb rc : PL.Ev PL.AV}
theorem pwipe_len (ρ : PL.Env) : ∀ vs : List Nat, (PL.wipe ρ vs).length = ρ.length
  | [] => rfl
  | v :: vs => by unfold PL.wipe; rw [List.length_set, pwipe_len ρ vs]
theorem pwipe_some {i : Nat} {s : PL.SV} : ∀ {vs : List Nat}, (PL.wipe ρ vs)[i]? = some (some s) → ρ[i]? = some (some s) ∧ i ∉ vs
  | [], h => ⟨h, by simp⟩
  | v :: vs, h => by
    unfold PL.wipe at h
    by_cases e : v = i
    · subst e
      by_cases hl : v < (PL.wipe ρ vs).length
      · rw [List.getElem?_set_self hl] at h; cases h
      · rw [List.getElem?_eq_none (by rw [List.length_set]; omega)] at h; cases h
    · rw [List.getElem?_set_ne e] at h
      obtain ⟨h1, h2⟩ := pwipe_some h
      exact ⟨h1, fun z => (List.mem_cons.mp z).elim (fun q => e q.symm) h2⟩
theorem pwipe_out {i : Nat} : ∀ {vs : List Nat}, i ∉ vs → (PL.wipe ρ vs)[i]? = ρ[i]?
  | [], _ => rfl
  | v :: vs, h => by
    unfold PL.wipe
    rw [List.getElem?_set_ne fun e => h (by rw [e]; exact List.mem_cons_self), pwipe_out fun z => h (List.mem_cons_of_mem _ z)]
theorem wout {i : Nat} : ∀ {vs : List Nat}, i ∉ vs → (L2.wipe σ vs)[i]? = σ[i]?
  | [], _ => rfl
  | v :: vs, h => by
    unfold L2.wipe
    rw [List.getElem?_set_ne fun e => h (by rw [e]; exact List.mem_cons_self), wout fun z => h (List.mem_cons_of_mem _ z)]
theorem win {i : Nat} (hl : i < σ.length) : ∀ {vs : List Nat}, i ∈ vs → (L2.wipe σ vs)[i]? = some none
  | v :: vs, h => by
    unfold L2.wipe
    by_cases e : v = i
    · subst e
      rw [List.getElem?_set_self (by rw [L2.wipe_length]; exact hl)]
    · rw [List.getElem?_set_ne e, win hl ((List.mem_cons.mp h).resolve_left fun q => e q.symm)]
/-- what stands outside vs alone counts -/
theorem wipe_eq {σ σ' : St} {vs : List Nat} (hl : σ'.length = σ.length) (h : ∀ i, i ∉ vs → σ'[i]? = σ[i]?) : L2.wipe σ' vs = L2.wipe σ vs := by
  refine List.ext_getElem? fun i => ?_
  by_cases hi : i ∈ vs
  · by_cases hl' : i < σ.length
    · rw [win hl' hi, win (by omega) hi]
    · rw [List.getElem?_eq_none (by rw [L2.wipe_length]; omega), List.getElem?_eq_none (by rw [L2.wipe_length]; omega)]
  · rw [wout hi, wout hi, h i hi]
theorem REnv.wipe (I : REnv G H Z σ ρ) (vs : List Nat) : REnv G H Z (L2.wipe σ vs) (PL.wipe ρ vs) where
  len := by rw [L2.wipe_length, pwipe_len]; exact I.len
  at_ := fun i s h => by
    obtain ⟨h1, h2⟩ := pwipe_some h
    obtain ⟨v, h3, h4⟩ := I.at_ i s h1
    exact ⟨v, by rw [wout h2]; exact h3, h4⟩
  apart := fun i j x s a h1 h2 h3 h4 h5 => by
    obtain ⟨g1, n1⟩ := pwipe_some h1
    obtain ⟨g2, n2⟩ := pwipe_some h2
    rw [wout n1] at h4
    rw [wout n2] at h5
    exact I.apart i j x s a g1 g2 h3 h4 h5
  tabs := I.tabs
  zin := I.zin
theorem Own.wipe {vs : List Nat} {a : Addr} (h : Own (L2.wipe σ vs) (PL.wipe ρ vs) a) : Own σ ρ a := by
  obtain ⟨i, x, h1, h2⟩ := h
  obtain ⟨g1, n1⟩ := pwipe_some h1
  rw [wout n1] at h2
  exact ⟨i, x, g1, h2⟩
theorem tabs_upd {T : List (Addr × Str)} {D : Addr} {o : HO} {l : List V} (t : LamX.Tabs T H) (hD : H D = some (.lst l)) : LamX.Tabs T (upd H D o) := fun q hq => by
  obtain ⟨ps, h1, h2, h3⟩ := t q hq
  refine ⟨ps, ?_, h2, fun pos cv hc => ?_⟩
  · rw [upd_ne fun e => by rw [e, hD] at h1; cases h1]; exact h1
  · obtain ⟨c, e1, e2⟩ := h3 pos cv hc
    refine ⟨c, e1, ?_⟩
    rw [upd_ne fun e => by rw [e, hD] at e2; unfold LamX.CodeO at e2; cases e2]; exact e2
/-- an object that is neither owned nor taken is changed -/
theorem REnv.updD {D : Addr} {o : HO} {l : List V} (I : REnv G H Z σ ρ) (hD : H D = some (.lst l)) (nz : ¬ Z D) (no : ¬ Own σ ρ D) : REnv G (upd H D o) Z σ ρ ∧ Ext H Z (upd H D o) Z := by
  have x : Ext H Z (upd H D o) Z := ⟨fun _ h => h, fun a u h z _ => by rw [upd_ne fun e => nz (by rw [← e]; exact z)]; exact h, fun a xs h => by rw [upd_ne fun e => by rw [e, hD] at h; cases h]; exact h,
    fun a u k h => by rw [upd_ne fun e => by rw [e, hD] at h; cases h]; exact h⟩
  refine ⟨⟨I.len, fun i s h => ?_, I.apart, tabs_upd I.tabs hD, fun a z => (I.zin a z).elim fun u h => ⟨u, by rw [upd_ne fun e => nz (by rw [← e]; exact z)]; exact h⟩⟩, x⟩
  obtain ⟨v, h1, h2⟩ := I.at_ i s h
  refine ⟨v, h1, ?_⟩
  cases s with
  | d y => exact Rep.ext x y v h2
  | w y =>
    obtain ⟨b, e1, nzb, rb⟩ := h2
    refine ⟨b, e1, nzb, RepO.ext x (fun u h _ => ?_) rb⟩
    rw [upd_ne fun e => no ⟨i, y, by assumption, by rw [← e, ← e1]; exact h1⟩]
    assumption
  | lam n =>
    obtain ⟨f, e1, h3⟩ := h2
    refine ⟨f, e1, ?_⟩
    rw [upd_ne fun e => by rw [e, hD] at h3; exact G.nl n D l (Option.some.inj h3).symm]
    exact h3
  | ali j k => exact h2
theorem HStep.updD {O O' : Addr → Prop} {D : Addr} {o : HO} (s : HStep H Z O H' Z' O') (n : H D = none) : HStep H Z O (upd H' D o) Z' O' :=
  ⟨s.zz, s.zn, fun a u h no t => by rw [upd_ne fun e => by rw [e, n] at h; cases h]; exact s.keep a u h no t, s.own, fun a h => by
    by_cases e : a = D
    · rw [e]; exact n
    · rw [upd_ne e] at h; exact s.live a h⟩
theorem pback_len (ρ₀ ρ : PL.Env) : ∀ vs : List Nat, (PL.back ρ₀ ρ vs).length = ρ.length
  | [] => rfl
  | v :: vs => by unfold PL.back; rw [List.length_set, pback_len ρ₀ ρ vs]
theorem pback_out {ρ₀ : PL.Env} {i : Nat} : ∀ {vs : List Nat}, i ∉ vs → (PL.back ρ₀ ρ vs)[i]? = ρ[i]?
  | [], _ => rfl
  | v :: vs, h => by
    unfold PL.back
    rw [List.getElem?_set_ne fun e => h (by rw [e]; exact List.mem_cons_self), pback_out fun z => h (List.mem_cons_of_mem _ z)]
theorem pback_in {ρ₀ : PL.Env} {i : Nat} (hl : i < ρ.length) : ∀ {vs : List Nat}, i ∈ vs → (PL.back ρ₀ ρ vs)[i]? = some ((ρ₀[i]?).join)
  | v :: vs, h => by
    unfold PL.back
    by_cases e : v = i
    · subst e
      rw [List.getElem?_set_self (by rw [pback_len]; exact hl)]
    · rw [List.getElem?_set_ne e, pback_in hl ((List.mem_cons.mp h).resolve_left fun q => e q.symm)]
/-- the slots of a block as they were -/
theorem REnv.back {vs : List Nat} {H1 : Hp} {Z1 : Addr → Prop} (I1 : REnv G H1 Z1 σ ρ1) (I : REnv G H Z (L2.wipe σ vs) (PL.wipe ρ vs)) (x : Ext H1 Z1 H Z) (hd : ∀ i ∈ vs, PL.datAt ρ1 i = true) :
    REnv G H Z σ (PL.back ρ1 ρ vs) ∧ (∀ a, Own σ (PL.back ρ1 ρ vs) a → Own (L2.wipe σ vs) (PL.wipe ρ vs) a) := by
  have hl : σ.length = ρ.length := by
    have := I.len
    rwa [L2.wipe_length, pwipe_len] at this
  have dat : ∀ i ∈ vs, ∀ s, (PL.back ρ1 ρ vs)[i]? = some (some s) → ∃ d, s = .d d ∧ ρ1[i]? = some (some (.d d)) := fun i hi s h => by
    have hb : i < ρ.length := by
      have := (List.getElem?_eq_some_iff.mp h).1
      rwa [pback_len] at this
    rw [pback_in hb hi] at h
    have h : PL.slot ρ1 i = some s := Option.some.inj h
    have q := hd i hi
    unfold PL.datAt at q
    rw [h] at q
    cases s with
    | d y => exact ⟨y, rfl, slot_some.mp h⟩
    | _ => cases q
  refine ⟨⟨by rw [pback_len]; exact hl, fun i s h => ?_, fun i j y s a h1 h2 h3 h4 h5 => ?_, I.tabs, I.zin⟩, fun a ⟨i, y, h1, h2⟩ => ?_⟩
  · by_cases hi : i ∈ vs
    · obtain ⟨d, rfl, e⟩ := dat i hi s h
      obtain ⟨v, h3, h4⟩ := I1.at_ i _ e
      exact ⟨v, h3, Rep.ext x d v h4⟩
    · rw [pback_out hi] at h
      obtain ⟨v, h3, h4⟩ := I.at_ i s (by rw [pwipe_out hi]; exact h)
      exact ⟨v, by rw [wout hi] at h3; exact h3, h4⟩
  · by_cases hi : i ∈ vs
    · obtain ⟨d, e, _⟩ := dat i hi _ h1; cases e
    · by_cases hj : j ∈ vs
      · obtain ⟨d, e, _⟩ := dat j hj _ h2; exact absurd e (h3 d)
      · rw [pback_out hi] at h1
        rw [pback_out hj] at h2
        exact I.apart i j y s a (by rw [pwipe_out hi]; exact h1) (by rw [pwipe_out hj]; exact h2) h3 (by rw [wout hi]; exact h4) (by rw [wout hj]; exact h5)
  · by_cases hi : i ∈ vs
    · obtain ⟨d, e, _⟩ := dat i hi _ h1; cases e
    · rw [pback_out hi] at h1
      exact ⟨i, y, by rw [pwipe_out hi]; exact h1, by rw [wout hi]; exact h2⟩
theorem noexc_ok {α β : Type} {x : PL.Res α} {f : α → PL.Res (β × PL.Env)} {ok : β → PL.Env → Prop} (o : Outc G W H σ ρ (x.noexc.bind f) ok) : ∃ y, x = .ok y ∧ Outc G W H σ ρ (f y) ok := by
  cases x with
  | ok y => exact ⟨y, rfl, o⟩
  | exc c ps => exact o.elim
  | stuck => exact o.elim
theorem res_bind_ok {α β : Type} {x : PL.Res α} {f : α → PL.Res β} {z : β} (h : x.bind f = .ok z) : ∃ y, x = .ok y ∧ f y = .ok z := by
  cases x with
  | ok y => exact ⟨y, rfl, h⟩
  | exc c ps => cases h
  | stuck => cases h
theorem ofO_bind_ok {α β : Type} {x : Option α} {f : α → PL.Res β} {z : β} (h : (PL.ofO x).bind f = .ok z) : ∃ y, x = some y ∧ f y = .ok z := by
  cases x with
  | some y => exact ⟨y, rfl, h⟩
  | none => cases h
/-- one item -/
theorem comp_ok {own : List Nat} {tg : PL.Tg} {rc : PL.Ev Bool} {re : PL.Ev PL.D} {x : PL.D} {y : Option PL.D} (h : PL.compStep own tg rc re x ρ = .ok (y, ρ')) :
    ∃ ρ2 k ρ3, PL.tgSet tg x (PL.wipe ρ own) = some ρ2 ∧ rc ρ2 = .ok (k, ρ3) ∧ ((k = true ∧ ∃ d, re ρ3 = .ok (d, ρ') ∧ y = some d) ∨ (k = false ∧ y = none ∧ ρ' = ρ3)) := by
  unfold PL.compStep at h
  obtain ⟨ρ2, e1, h⟩ := ofO_bind_ok h
  obtain ⟨⟨k, ρ3⟩, e2, h⟩ := res_bind_ok h
  refine ⟨ρ2, k, ρ3, e1, e2, ?_⟩
  dsimp only at h
  cases k with
  | true =>
    obtain ⟨⟨d, ρ4⟩, e3, h⟩ := res_bind_ok h
    cases h
    exact .inl ⟨rfl, d, e3, rfl⟩
  | false =>
    cases h
    exact .inr ⟨rfl, rfl, rfl⟩
theorem comp_r {os : List Nat} {tg : PL.Tg} {rs : PL.Ev (List PL.D)} {rc : PL.Ev Bool} {re : PL.Ev PL.D} {W0 : WX} {Q : VK} (htg : ∀ i ∈ tgs tg, i ∈ os) (h : tE G W (PL.evComp os tg rs rc re) σ H Q) : tLc (iSrc G W rs) (gD G tg) (tB G W0 rc) (tD G W0 re) os σ H Q := by
  obtain ⟨Z, ρ, I, o⟩ := h
  refine ⟨Z, ρ, I, o.bind.mono fun xs ρ1 o1 vs H1 Z1 J st rl gv D hD => ?_⟩
  obtain ⟨⟨hdat, hfew⟩, o2⟩ := if_ok o1
  rw [List.all_eq_true] at hdat
  obtain ⟨⟨ds, ρe⟩, eg, k⟩ := noexc_ok o2
  have k : ∀ v H' Z', Step G H Z σ ρ H' Z' σ (PL.back ρ1 ρe os) → RepA G H H' Z' σ (PL.back ρ1 ρe os) (.f (.l ds)) v → Q v H' := k
  have I1 := st.env
  have hlen := rl.length
  have nz1 : ¬ Z1 D := fun z => by obtain ⟨u, e⟩ := I1.zin D z; rw [hD] at e; cases e
  have no1 : ¬ Own σ ρ1 D := fun z => by obtain ⟨_, u, e, _⟩ := I1.ownZ z; rw [hD] at e; cases e
  let Wp : Nat → Nat → Hp → Prop := fun i m Hc => m = vs.length - i ∧ i ≤ vs.length ∧ ∃ Zc ρc dsc rest acc, PL.compGo (PL.compStep os tg rc re) (xs.drop i) ρc = .ok (rest, ρe) ∧ ds = dsc ++ rest ∧ REnv G Hc Zc (L2.wipe σ os) (PL.wipe ρc os) ∧
    HStep H1 Z1 (Own σ ρ1) Hc Zc (Own (L2.wipe σ os) (PL.wipe ρc os)) ∧ Hc D = some (.lst acc) ∧ ¬ Zc D ∧ ¬ Own (L2.wipe σ os) (PL.wipe ρc os) D ∧ G.RL Hc Zc dsc acc ∧ acc.length ≤ i
  refine ⟨Wp, ⟨vs.length, by simp, Nat.zero_le _, ?_⟩, ?_⟩
  · have g := I1.grow (upd_grow (o := .lst []) hD)
    refine ⟨Z1, ρ1, [], ds, [], by rw [List.drop_zero]; exact eg, rfl, g.env.wipe os, ?_, upd_same, nz1, fun z => no1 z.wipe, RepL.nil, Nat.le_refl _⟩
    exact (HStep.refl.updD hD).less fun a z => z.wipe
  · rintro i m Hc ⟨rfl, hi, Zc, ρc, dsc, rest, acc, ego, eds, Ic, hst, hDc, nzD, noD, rlc, hacc⟩
    have xt : Ext H1 Z1 Hc Zc := by
      refine ⟨hst.zz, fun a u h z t => hst.keep a u h (fun q => (I1.ownZ q).1 z) t, fun a us h => hst.keep a _ h (fun q => ?_) (fun _ z => by cases z), fun a u w h => hst.keep a _ h (fun q => ?_) (fun _ z => by cases z)⟩
      · obtain ⟨_, u, e, _, n, _⟩ := I1.ownZ q
        rw [h] at e; cases e; exact n us rfl
      · obtain ⟨_, u', e, _, _, n⟩ := I1.ownZ q
        rw [h] at e; cases e; exact n u w rfl
    rcases Nat.lt_or_ge i vs.length with hlt | hge
    · have hx : xs[i]? = some (xs[i]'(by omega)) := List.getElem?_eq_getElem (by omega)
      rw [List.drop_eq_getElem_cons (by omega)] at ego
      unfold PL.compGo at ego
      obtain ⟨⟨y, ρ'⟩, e1, ego⟩ := res_bind_ok ego
      obtain ⟨⟨ys, ρe'⟩, e2, ego⟩ := res_bind_ok ego
      obtain ⟨ρ2, kk, ρ3, t1, t2, t3⟩ := comp_ok e1
      obtain ⟨v, hv, rv⟩ := rl.get hx
      obtain ⟨g1, g2⟩ := (gv Hc Zc xt i).1 v hv
      refine .inr ⟨g1, Wp (i + 1) (vs.length - (i + 1)), fun H' z => ⟨vs.length - (i + 1), by omega, z⟩, fun x' H' yld => ?_⟩
      obtain ⟨rfl, rfl⟩ := g2 x' H' yld
      refine ⟨Zc, PL.wipe ρc os, xs[i]'(by omega), ρ2, Ic, Rep.ext xt _ _ rv, t1, fun ws E2 ow => ⟨?_, Zc, ρ2, E2, ?_⟩⟩
      · rw [wipe_eq (σ := L2.wipe σ os) (by rw [setV_len]) fun j hj => setV_get fun z => hj (htg j z)]
        exact wipe_eq (by rw [L2.wipe_length]) fun j hj => wout hj
      · rw [t2]
        intro H3 Z3 s3
        have weq : L2.wipe (setV (tgs tg) ws (L2.wipe σ os)) os = L2.wipe σ os := by
          rw [wipe_eq (σ := L2.wipe σ os) (by rw [setV_len]) fun j hj => setV_get fun z => hj (htg j z)]
          exact wipe_eq (by rw [L2.wipe_length]) fun j hj => wout hj
        have noD2 : ¬ Own (setV (tgs tg) ws (L2.wipe σ os)) ρ2 D := fun z => noD (ow D z)
        have hD3 := s3.keep D _ hDc noD2 (fun _ z => by cases z)
        have nz3 : ¬ Z3 D := fun z => by
          rcases s3.zn D z with q | q | q
          · exact nzD q
          · rw [hDc] at q; cases q
          · exact noD2 q
        have noD3 : ¬ Own (setV (tgs tg) ws (L2.wipe σ os)) ρ3 D := fun z => (s3.own D z).elim noD2 fun q => by rw [hDc] at q; cases q
        have hst3 := hst.trans (s3.h.more ow)
        rcases t3 with ⟨rfl, d, e3, rfl⟩ | ⟨rfl, rfl, rfl⟩
        · rw [if_pos rfl]
          refine ⟨Z3, ρ3, s3.env, ?_⟩
          rw [e3]
          intro yv H4 Z4 s4 r4
          have hD4 := s4.keep D _ hD3 noD3 (fun _ z => by cases z)
          have nz4 : ¬ Z4 D := fun z => by
            rcases s4.zn D z with q | q | q
            · exact nz3 q
            · rw [hD3] at q; cases q
            · exact noD3 q
          have noD4 : ¬ Own (setV (tgs tg) ws (L2.wipe σ os)) ρ' D := fun z => (s4.own D z).elim noD3 fun q => by rw [hD3] at q; cases q
          refine ⟨acc, hD4, by (have h9 : i < PL.lineN := (by omega)); rw [← line_eq]; omega, rfl, by omega, Z4, ρ', dsc ++ [d], ys, acc ++ [yv], ?_, ?_, ?_, ?_, upd_same, nz4, ?_, ?_, ?_⟩
          · cases ego; exact e2
          · cases ego; rw [eds]; simp
          · rw [← weq]; exact ((s4.env.updD hD4 nz4 noD4).1).wipe os
          · rw [← weq]; exact ((hst3.trans s4.h).updD hD).less fun a z => z.wipe
          · rw [← weq]; exact fun z => noD4 z.wipe
          · have x34 := (s3.trans s4).ext E2
            exact RepL.ext (s4.env.updD hD4 nz4 noD4).2 _ _ (RepL.append (RepL.ext x34 _ _ rlc) (RepL.one r4))
          · simp; omega
        · rw [if_neg Bool.false_ne_true]
          refine ⟨rfl, by omega, Z3, ρ', dsc, ys, acc, ?_, ?_, ?_, ?_, hD3, nz3, ?_, RepL.ext (s3.ext E2) _ _ rlc, by omega⟩
          · cases ego; exact e2
          · cases ego; exact eds
          · rw [← weq]; exact s3.env.wipe os
          · rw [← weq]; exact hst3.less fun a z => z.wipe
          · rw [← weq]; exact fun z => noD3 z.wipe
    · have ei : i = vs.length := by omega
      rw [List.drop_eq_nil_of_le (by omega)] at ego
      unfold PL.compGo at ego
      cases ego
      rw [List.append_nil] at eds
      subst eds
      refine .inl ⟨(gv Hc Zc xt i).2 hge, ?_⟩
      obtain ⟨eb, ob⟩ := REnv.back I1 Ic xt hdat
      have hs2 : HStep H Z (Own σ ρ) Hc Zc (Own σ (PL.back ρ1 ρe os)) := (st.h.trans hst).less ob
      exact k _ Hc Zc (hs2.step eb fun _ _ => rfl) ⟨D, rfl, st.live D hD, nzD, fun z => noD (ob D z), acc, hDc, by rw [← line_eq]; omega, rlc⟩
theorem se_comp (hg : GX G X) {own : List (Str × Nat)} {tg : PL.Tg} {rs : PL.Ev (List PL.D)} {rc : PL.Ev Bool} {re : PL.Ev PL.D} {W0 : WX} {elt tgE iter : Expr} {ifs : List Expr} {scope : Scope}
    (hc : X.calm = true) (hN : X.N.Nodup) (hi : PI X tgE iter (iSrc G W rs)) (ok : BlkOk X.N X.env.scope scope own) (hio : ∀ i ∈ own.map (·.2), i ∉ G.IO) (htg : ∀ i ∈ tgs tg, i ∈ own.map (·.2))
    (hgt : ∀ (s : Shared) (H : Hp) (C : Addr) (cl : List (Str × Addr)) (fp : List Addr), PG (X.blk s H scope (compEnvC scope cl C X.env) fp) tgE (gD G tg))
    (ht : ∀ (s : Shared) (H : Hp) (C : Addr) (cl : List (Str × Addr)) (fp : List Addr), PTs (X.blk s H scope (compEnvC scope cl C X.env) fp) ifs (tB G W0 rc))
    (he : ∀ (s : Shared) (H : Hp) (C : Addr) (cl : List (Str × Addr)) (fp : List Addr), PE (X.blk s H scope (compEnvC scope cl C X.env) fp) elt (tD G W0 re))
    (hs : ∀ x, foldedSetIterable iter X.env x = pure x) :
    PE X (.ListComp elt [⟨tgE, iter, ifs, 0⟩] scope pos) (tE G W (PL.evComp (own.map (·.2)) tg rs rc re)) := (pe_lc hc hN hi ok hgt ht he hs).imq fun σ H Q h => comp_r htg h
end
end PLS
end

section
set_option Elab.async false
set_option linter.all false
set_option maxRecDepth 100000
set_option maxHeartbeats 4000000
/-! the soundness of P-lang: statements, changes -/
namespace PLS
open PySem PySem.Spec PyProof.Rows L2 PySem.W
def wx (E : XK) : WX := fun c d _ H => E c d H
section
variable (G : GS) (E : XK)
/-- what is handed back -/
def RepR (H : Hp) (σ : St) (ρ : PL.Env) (H' : Hp) (Z' : Addr → Prop) (σ' : St) (ρ' : PL.Env) : PL.RV → V → Prop
  | .v d, v => G.R H' Z' d v
  | .f x, v => ∃ a : Addr, v = .ref a ∧ (H a = none ∨ Own σ ρ a) ∧ ¬ Z' a ∧ ¬ Own σ' ρ' a ∧ G.O H' Z' x a
def okS (D : Ends) (H : Hp) (Z : Addr → Prop) (σ : St) (ρ : PL.Env) (fl : PL.Fl) (ρ' : PL.Env) : Prop := match fl with
  | .nx => ∀ H' Z' σ', Step G H Z σ ρ H' Z' σ' ρ' → D.nx σ' H'
  | .rt rv => ∀ v H' Z' σ', Step G H Z σ ρ H' Z' σ' ρ' → RepR G H σ ρ H' Z' σ' ρ' rv v → D.rt v H'
def tS (r : PL.Ev PL.Fl) : TS := fun D σ H => ∃ Z ρ, REnv G H Z σ ρ ∧ Outc G (wx E) H σ ρ (r ρ) (okS G D H Z σ ρ)
end
section
variable {G : GS} {E : XK} {X : Cx} {σ σ' σ1 : St} {H H' H1 H₀ : Hp} {Z Z' Z1 : Addr → Prop} {ρ ρ' ρ1 : PL.Env} {pos p p2 : Pos} {a b c : Expr} {ra rb rc : PL.Ev PL.AV} {D : Ends}
theorem Outc.at2 {α : Type} {x : PL.Res (α × PL.Env)} {ok : α → PL.Env → Prop} (s : Step G H Z σ ρ H1 Z1 σ1 ρ1) (h : Outc G (wx E) H σ ρ x ok) : Outc G (wx E) H1 σ1 ρ1 x ok := by
  cases x with
  | ok p => exact h
  | exc c ps => exact fun d H' e => h d H' (e.back s)
  | stuck => exact h
theorem RepR.from {σ1 σ' : St} (s : Step G H Z σ ρ H1 Z1 σ1 ρ1) {rv : PL.RV} {v : V} (h : RepR G H1 σ1 ρ1 H' Z' σ' ρ' rv v) : RepR G H σ ρ H' Z' σ' ρ' rv v := by
  cases rv with
  | v d => exact h
  | f x =>
    obtain ⟨l, e, n, r⟩ := h
    exact ⟨l, e, n.elim (fun n => .inl (s.live l n)) fun o => (s.own l o).elim .inr .inl, r⟩
theorem okS.from {D : Ends} (s : Step G H Z σ ρ H1 Z1 σ1 ρ1) {fl : PL.Fl} {ρ' : PL.Env} (h : okS G D H Z σ ρ fl ρ') : okS G D H1 Z1 σ1 ρ1 fl ρ' := by
  cases fl with
  | nx => exact fun H' Z' σ' s' => h H' Z' σ' (s.trans s')
  | rt rv => exact fun v H' Z' σ' s' r => h v H' Z' σ' (s.trans s') (r.from s)
/-- going on from a later state -/
theorem tS_from {r : PL.Ev PL.Fl} {ok : PL.Fl → PL.Env → Prop} (s : Step G H Z σ ρ H1 Z1 σ1 ρ1) (o : Outc G (wx E) H σ ρ (r ρ1) (okS G D H Z σ ρ)) : tS G E r D σ1 H1 :=
  ⟨Z1, ρ1, s.env, (o.at2 s).mono fun fl ρ' q => q.from s⟩
theorem ss_nil : PSs X [] (tS G E (PL.evK .nx)) := pss_nil.imq fun D σ H h => by
  obtain ⟨Z, ρ, I, o⟩ := h
  exact o H Z σ (Step.refl I)
theorem ss_cons {st : Stmt} {rest : List Stmt} {r1 r2 : PL.Ev PL.Fl} (h1 : PS X st (tS G E r1)) (h2 : PSs X rest (tS G E r2)) :
    PSs X (st :: rest) (tS G E fun ρ => (r1 ρ).bind fun (f, ρ1) => match f with
      | .nx => r2 ρ1
      | .rt x => .ok (.rt x, ρ1)) := (pss_cons h1 h2).imq fun D σ H h => by
  obtain ⟨Z, ρ, I, o⟩ := h
  refine ⟨Z, ρ, I, o.bind.mono fun fl ρ1 o1 => ?_⟩
  cases fl with
  | nx => exact fun H1 Z1 σ1 s1 => tS_from (ok := fun _ _ => True) s1 o1
  | rt rv => exact o1
theorem s_expr (he : PE X a (tE G (wx E) ra)) (hs : swapsWith a none pos.line X.env = pure false) : PS X (.Expr a pos) (tS G E fun ρ => (ra ρ).bind fun (_, ρ1) => .ok (.nx, ρ1)) := (ps_expr he hs).imq fun D σ H h => by
  obtain ⟨Z, ρ, I, o⟩ := h
  exact ⟨Z, ρ, I, o.bind.mono fun av ρ1 o1 v H1 Z1 s1 r1 => o1 H1 Z1 σ s1⟩
theorem s_ite {rt : PL.Ev Bool} {r1 r2 : PL.Ev PL.Fl} {A B : List Stmt} (hc : PT X c (tB G (wx E) rt)) (ha : PSs X A (tS G E r1)) (hb : PSs X B (tS G E r2)) : PS X (.If c A B pos) (tS G E (PL.evIf rt r1 r2)) := (ps_if hc ha hb).imq fun D σ H h => by
  obtain ⟨Z, ρ, I, o⟩ := h
  refine ⟨Z, ρ, I, o.bind.mono fun k ρ1 o1 H1 Z1 s1 => ?_⟩
  cases k with
  | true => exact tS_from (ok := fun _ _ => True) s1 o1
  | false => exact tS_from (ok := fun _ _ => True) s1 o1
/-- a slot given data -/
theorem Step.data {i : Nat} {d : PL.D} {v : V} (s : Step G H Z σ ρ H1 Z1 σ1 ρ1) (hio : i ∉ G.IO) (r : G.R H1 Z1 d v) : Step G H Z σ ρ H1 Z1 (σ1.set i (some v)) (ρ1.set i (some (.d d))) :=
  (s.h.less fun a z => Own.unset z).step (s.env.set r) fun j hj => by rw [List.getElem?_set_ne fun e => hio (by rw [e]; exact hj)]; exact s.fix j hj
theorem asg_r {i : Nat} {D : Ends} (hio : i ∉ G.IO) (h : tS G E (fun ρ => (PL.evD ra ρ).bind fun (d, ρ2) => if i < ρ2.length then .ok (.nx, ρ2.set i (some (.d d))) else .stuck) D σ H) : tAsg (tD G (wx E) (PL.evD ra)) (gName i) D σ H := by
  obtain ⟨Z, ρ, I, o⟩ := h
  refine ⟨Z, ρ, I, o.bind.mono fun d ρ1 o1 v H1 Z1 s1 r1 => ?_⟩
  obtain ⟨_, o2⟩ := if_ok o1
  exact o2 H1 Z1 _ (s1.data hio r1)
theorem s_asg {i : Nat} {x : Str} (hio : i ∉ G.IO) (hN : X.N.Nodup) (hi : X.N[i]? = some x) (hx : Loc X.env.scope x) (he : PE X a (tE G (wx E) ra)) (hs : swapsWith a (some (.Name x p)) pos.line X.env = pure false) (hf : X.fn x = true ∨ X.env.scope.names.lookup x = some .local) :
    PS X (.Assign [.Name x p] a pos) (tS G E fun ρ => (PL.evD ra ρ).bind fun (d, ρ2) => if i < ρ2.length then .ok (.nx, ρ2.set i (some (.d d))) else .stuck) := (ps_set hN hi hx (se_d he) hs hf).imq fun D σ H h => asg_r hio h

/-! ### owned slots -/
theorem RepO.notLA {x : PL.OV} {a : Addr} {n : Nat} {f : Addr} (h : G.O H Z x a) : H a ≠ some (G.LA n f) := fun e => by
  cases x with
  | l ds =>
    obtain ⟨vs, h1, _⟩ := h
    rw [e] at h1
    exact G.nl n f vs (Option.some.inj h1)
  | k kvs =>
    obtain ⟨l, h1, _⟩ := h
    rw [e] at h1
    exact G.nd n f a l (Option.some.inj h1)
  | _ => exact h.elim
theorem REnv.setW (I : REnv G H Z σ ρ) {i : Nat} {x : PL.OV} {a : Addr} (nz : ¬ Z a) (no : ¬ Own σ ρ a) (r : G.O H Z x a) : REnv G H Z (σ.set i (some (.ref a))) (ρ.set i (some (.w x))) where
  len := by rw [List.length_set, List.length_set]; exact I.len
  at_ := fun j s e => by
    by_cases ij : i = j
    · subst ij
      have hl : i < ρ.length := by
        have := (List.getElem?_eq_some_iff.mp e).1
        rwa [List.length_set] at this
      rw [List.getElem?_set_self hl] at e
      cases e
      exact ⟨.ref a, by rw [List.getElem?_set_self (by rw [I.len]; exact hl)], a, rfl, nz, r⟩
    · rw [List.getElem?_set_ne ij] at e
      obtain ⟨u, h1, h2⟩ := I.at_ j s e
      exact ⟨u, by rw [List.getElem?_set_ne ij]; exact h1, h2⟩
  apart := fun j k y s b h1 h2 h3 h4 h5 => by
    have hlam : ∀ (k : Nat) (s : PL.SV), ρ[k]? = some (some s) → (∀ d, s ≠ .d d) → σ[k]? = some (some (.ref a)) → False := fun k s e nd es => by
      cases s with
      | d d => exact nd d rfl
      | w z => exact no ⟨k, z, e, es⟩
      | lam n =>
        obtain ⟨v, e1, f, rfl, e3⟩ := I.at_ k _ e
        rw [es] at e1
        cases e1
        exact RepO.notLA r e3
      | ali m q => obtain ⟨v, e1, e2⟩ := I.at_ k _ e; exact e2
    have hb : ∀ {k : Nat} {s : PL.SV}, (ρ.set i (some (.w x)))[k]? = some (some s) → i ≠ k → ρ[k]? = some (some s) := fun e ne => by rwa [List.getElem?_set_ne ne] at e
    have hs : ∀ {k : Nat} {v : V}, (σ.set i (some (.ref a)))[k]? = some (some v) → i ≠ k → σ[k]? = some (some v) := fun e ne => by rwa [List.getElem?_set_ne ne] at e
    have hself : ∀ {v : V}, (σ.set i (some (.ref a)))[i]? = some (some v) → v = .ref a := fun {v} e => by
      have hl := (List.getElem?_eq_some_iff.mp e).1
      rw [List.length_set] at hl
      rw [List.getElem?_set_self hl] at e
      cases e; rfl
    by_cases ij : i = j
    · by_cases ik : i = k
      · exact ij.symm.trans ik
      · subst ij
        cases hself h4
        exact (hlam k s (hb h2 ik) h3 (hs h5 ik)).elim
    · by_cases ik : i = k
      · subst ik
        cases hself h5
        exact (hlam j _ (hb h1 ij) (fun d q => by cases q) (hs h4 ij)).elim
      · exact I.apart j k y s b (hb h1 ij) (hb h2 ik) h3 (hs h4 ij) (hs h5 ik)
  tabs := I.tabs
  zin := I.zin
theorem Own.setW {i : Nat} {x : PL.OV} {a b : Addr} (h : Own (σ.set i (some (.ref a))) (ρ.set i (some (.w x))) b) : Own σ ρ b ∨ b = a := by
  obtain ⟨j, y, h1, h2⟩ := h
  by_cases ij : i = j
  · subst ij
    have hl := (List.getElem?_eq_some_iff.mp h2).1
    rw [List.length_set] at hl
    rw [List.getElem?_set_self hl] at h2
    cases h2
    exact .inr rfl
  · rw [List.getElem?_set_ne ij] at h1 h2
    exact .inl ⟨j, y, h1, h2⟩
/-- a slot given a new object -/
theorem Step.fresh {i : Nat} {x : PL.OV} {a : Addr} (s : Step G H Z σ ρ H1 Z1 σ1 ρ1) (hio : i ∉ G.IO) (n : H a = none) (nz : ¬ Z1 a) (no : ¬ Own σ1 ρ1 a) (r : G.O H1 Z1 x a) : Step G H Z σ ρ H1 Z1 (σ1.set i (some (.ref a))) (ρ1.set i (some (.w x))) where
  env := s.env.setW nz no r
  zz := s.zz
  zn := s.zn
  keep := s.keep
  own := fun b z => (Own.setW z).elim (s.own b) fun e => .inr (by rw [e]; exact n)
  live := s.live
  fix := fun j hj => by rw [List.getElem?_set_ne fun e => hio (by rw [e]; exact hj)]; exact s.fix j hj
theorem s_own {i : Nat} {x : Str} (hio : i ∉ G.IO) (hN : X.N.Nodup) (hi : X.N[i]? = some x) (hx : Loc X.env.scope x) (he : PE X a (tE G (wx E) ra)) (hs : swapsWith a (some (.Name x p)) pos.line X.env = pure false) (hf : X.fn x = true ∨ X.env.scope.names.lookup x = some .local) :
    PS X (.Assign [.Name x p] a pos) (tS G E fun ρ => (ra ρ).bind fun (x, ρ1) => match x with
      | .f y => if i < ρ1.length then .ok (.nx, ρ1.set i (some (.w y))) else .stuck
      | _ => .stuck) := (ps_set hN hi hx he hs hf).imq fun D σ H h => by
  obtain ⟨Z, ρ, I, o⟩ := h
  refine ⟨Z, ρ, I, o.bind.mono fun av ρ1 o1 v H1 Z1 s1 r1 => ?_⟩
  cases av with
  | f y =>
    obtain ⟨_, o2⟩ := if_ok o1
    obtain ⟨l, rfl, n, nz, no, r⟩ := r1
    exact o2 H1 Z1 _ (s1.fresh hio n nz no r)
  | _ => exact o1.elim
/-- an owned object is changed -/
theorem Step.mod {i : Nat} {x y : PL.OV} {l : Addr} {o : HO} (s : Step G H Z σ ρ H1 Z1 σ1 ρ1) (hi : ρ1[i]? = some (some (.w x))) (hl : σ1[i]? = some (some (.ref l))) (hT : LamX.Tabs G.T (upd H1 l o)) (r : G.O (upd H1 l o) Z1 y l) :
    Step G H Z σ ρ (upd H1 l o) Z1 σ1 (ρ1.set i (some (.w y))) := by
  have I := s.env
  have ow : Own σ1 ρ1 l := ⟨i, x, hi, hl⟩
  obtain ⟨nz, u, hu, u1, u2, u3⟩ := I.ownZ ow
  have ib : i < ρ1.length := (List.getElem?_eq_some_iff.mp hi).1
  obtain ⟨v0, g1, l', g2, _, r0⟩ := I.at_ i _ hi
  rw [hl] at g1
  cases g1
  cases g2
  have xt : Ext H1 Z1 (upd H1 l o) Z1 := ⟨fun _ h => h, fun b w h z _ => by rw [upd_ne fun e => nz (by rw [← e]; exact z)]; exact h, fun b xs h => by rw [upd_ne fun e => by rw [e, hu] at h; cases h; exact u2 xs rfl]; exact h,
    fun b w k h => by rw [upd_ne fun e => by rw [e, hu] at h; cases h; exact u3 w k rfl]; exact h⟩
  have at' : ∀ {j : Nat} {t : PL.SV}, (ρ1.set i (some (.w y)))[j]? = some (some t) → (j = i ∧ t = .w y) ∨ (j ≠ i ∧ ρ1[j]? = some (some t)) := fun {j t} h => by
    by_cases e : i = j
    · subst e
      rw [List.getElem?_set_self ib] at h
      cases h
      exact .inl ⟨rfl, rfl⟩
    · rw [List.getElem?_set_ne e] at h
      exact .inr ⟨fun z => e z.symm, h⟩
  have env : REnv G (upd H1 l o) Z1 σ1 (ρ1.set i (some (.w y))) := by
    refine ⟨by rw [List.length_set]; exact I.len, fun j t h => ?_, fun j k z t b h1 h2 h3 h4 h5 => ?_, hT, fun b z => (I.zin b z).elim fun w h => ⟨w, by rw [upd_ne fun e => nz (by rw [← e]; exact z)]; exact h⟩⟩
    · rcases at' h with ⟨rfl, rfl⟩ | ⟨ne, h⟩
      · exact ⟨.ref l, hl, l, rfl, nz, r⟩
      · obtain ⟨v, h1, h2⟩ := I.at_ j t h
        refine ⟨v, h1, ?_⟩
        cases t with
        | d z => exact Rep.ext xt z v h2
        | w z =>
          obtain ⟨b, e1, nzb, rb⟩ := h2
          refine ⟨b, e1, nzb, RepO.ext xt (fun w hw _ => ?_) rb⟩
          rw [upd_ne fun e => ne (I.apart i j x _ l hi h (fun d q => by cases q) hl (by rw [h1, e1, e])).symm]
          exact hw
        | lam n =>
          obtain ⟨f, e1, h3⟩ := h2
          refine ⟨f, e1, ?_⟩
          rw [upd_ne fun e => RepO.notLA r0 (by rw [e] at h3; exact h3)]
          exact h3
        | ali m q => exact h2
    · rcases at' h1 with ⟨e1, _⟩ | ⟨_, g1⟩
      · rcases at' h2 with ⟨e2, _⟩ | ⟨_, g2⟩
        · rw [e1, e2]
        · exact I.apart j k x t b (by rw [e1]; exact hi) g2 h3 h4 h5
      · rcases at' h2 with ⟨e2, _⟩ | ⟨_, g2⟩
        · exact I.apart j k z (.w x) b g1 (by rw [e2]; exact hi) (fun d q => by cases q) h4 h5
        · exact I.apart j k z t b g1 g2 h3 h4 h5
  have ows : ∀ b, Own σ1 (ρ1.set i (some (.w y))) b → Own σ1 ρ1 b := fun b ⟨j, z, h1, h2⟩ => by
    rcases at' h1 with ⟨rfl, e⟩ | ⟨ne, h1⟩
    · exact ⟨_, x, hi, h2⟩
    · exact ⟨j, z, h1, h2⟩
  have nn : H l = none ∨ Own σ ρ l := (s.own l ow).symm
  refine ⟨env, s.zz, s.zn, fun b w h n t => ?_, fun b z => s.own b (ows b z), fun b h => ?_, s.fix⟩
  · rw [upd_ne fun e => by rcases nn with q | q; · rw [e, q] at h; cases h
                           · exact n (by rw [e]; exact q)]
    exact s.keep b w h n t
  · by_cases e : b = l
    · subst e; rw [upd_same] at h; cases h
    · rw [upd_ne e] at h; exact s.live b h
theorem mod_list {i : Nat} {xs ys : List PL.D} {l : Addr} {vs ws : List V} (s : Step G H Z σ ρ H1 Z1 σ1 ρ1) (hi : ρ1[i]? = some (some (.w (.l xs)))) (hl : σ1[i]? = some (some (.ref l))) (hv : H1 l = some (.lst vs)) (few : ws.length ≤ sizeLine) (r : G.RL H1 Z1 ys ws) :
    Step G H Z σ ρ (upd H1 l (.lst ws)) Z1 σ1 (ρ1.set i (some (.w (.l ys)))) := by
  obtain ⟨nz, u, hu, u1, u2, u3⟩ := s.env.ownZ ⟨i, _, hi, hl⟩
  have xt : Ext H1 Z1 (upd H1 l (.lst ws)) Z1 := ⟨fun _ h => h, fun b w h z _ => by rw [upd_ne fun e => nz (by rw [← e]; exact z)]; exact h, fun b xs h => by rw [upd_ne fun e => by rw [e, hu] at h; cases h; exact u2 xs rfl]; exact h,
    fun b w k h => by rw [upd_ne fun e => by rw [e, hu] at h; cases h; exact u3 w k rfl]; exact h⟩
  exact s.mod hi hl (tabs_upd s.env.tabs hv) ⟨ws, upd_same, few, RepL.ext xt _ _ r⟩
/-- an owned list, by the slot -/
theorem own_list {i : Nat} {xs : List PL.D} {v : V} (I : REnv G H Z σ ρ) (hs : PL.slot ρ i = some (.w (.l xs))) (hv : σ[i]? = some (some v)) : ∃ (l : Addr) (vs : List V), v = .ref l ∧ H l = some (.lst vs) ∧ vs.length ≤ sizeLine ∧ G.RL H Z xs vs := by
  obtain ⟨u, h1, l, rfl, _, vs, h2, h3, h4⟩ := I.at_ i _ (slot_some.mp hs)
  rw [hv] at h1
  cases h1
  exact ⟨l, vs, rfl, h2, h3, h4⟩
theorem RepA.r_eq {i : Nat} {v : V} (h : RepA G H₀ H Z σ ρ (.r i) v) : σ[i]? = some (some v) := h
/-- what modO does to a list in a slot -/
theorem modO_l (I : REnv G H Z σ ρ) {av : PL.AV} {g : PL.OV → Option (PL.OV × PL.D)} {z : PL.D} (hg : ∀ x y d, g x = some (y, d) → ∃ xs ys, x = .l xs ∧ y = .l ys) (e : PL.modO ρ av g = some (z, ρ')) (v : V) (hv : RepA G H₀ H Z σ ρ av v) :
    ∃ i xs ys, av = .r i ∧ PL.slot ρ i = some (.w (.l xs)) ∧ g (.l xs) = some (.l ys, z) ∧ ρ' = ρ.set i (some (.w (.l ys))) := by
  unfold PL.modO at e
  split at e
  · rename_i i
    split at e
    · rename_i x hs
      cases q : g x with
      | none => rw [q] at e; cases e
      | some w =>
        obtain ⟨y, d⟩ := w
        rw [q] at e
        cases e
        obtain ⟨xs, ys, rfl, rfl⟩ := hg _ _ _ q
        exact ⟨i, xs, ys, rfl, hs, q, rfl⟩
    · rename_i j k hs
      obtain ⟨_, _, q⟩ := I.at_ i _ (slot_some.mp hs)
      exact q.elim
    · cases e
  · exact hv.elim
  · cases e

/-! ### lists changed -/
theorem mod_bind {β : Type} {x : Option (PL.D × PL.Env)} {f : PL.D × PL.Env → PL.Res (β × PL.Env)} {ok : β → PL.Env → Prop} {W : WX} (o : Outc G W H σ ρ ((PL.ofO x).bind f) ok) : ∃ z ρ2, x = some (z, ρ2) ∧ Outc G W H σ ρ (f (z, ρ2)) ok := by
  obtain ⟨⟨z, ρ2⟩, e, o⟩ := o.ofO
  exact ⟨z, ρ2, e, o⟩
theorem ra_non : RepA G H₀ H Z σ ρ (.v .non) .non := r_non (G := G) (H := H) (Z := Z)
/-- a list in a slot -/
theorem isL_at (I : REnv G H Z σ ρ) {av : PL.AV} {v : V} (h : RepA G H₀ H Z σ ρ av v) (e : PL.isL ρ av = true) : ∃ (l : Addr) (vs : List V), v = .ref l ∧ H l = some (.lst vs) := by
  unfold PL.isL at e
  split at e
  · rename_i i
    split at e
    · rename_i xs hs
      obtain ⟨l, vs, e1, e2, _⟩ := own_list I hs h
      exact ⟨l, vs, e1, e2⟩
    · cases e
  · cases e
theorem tyL {K : PySem.W.Frag} {l : Addr} {vs : List V} (h : H l = some (.lst vs)) : tyV K "list" (.ref l) H := .inl ⟨rfl, vs, .inl (.inl h)⟩
/-- a list in a slot is changed to ys, ws -/
theorem modL {av : PL.AV} {g : PL.OV → Option (PL.OV × PL.D)} {z : PL.D} {v : V} (s : Step G H Z σ ρ H1 Z1 σ1 ρ1) (hv : RepA G H₀ H1 Z1 σ1 ρ1 av v) (hg : ∀ x y d, g x = some (y, d) → ∃ xs ys, x = .l xs ∧ y = .l ys) (e : PL.modO ρ1 av g = some (z, ρ')) :
    ∃ l xs ys vs, v = .ref l ∧ H1 l = some (.lst vs) ∧ vs.length ≤ sizeLine ∧ G.RL H1 Z1 xs vs ∧ g (.l xs) = some (.l ys, z) ∧ ∀ ws, ws.length ≤ sizeLine → G.RL H1 Z1 ys ws → Step G H Z σ ρ (upd H1 l (.lst ws)) Z1 σ1 ρ' ∧ Ext H1 Z1 (upd H1 l (.lst ws)) Z1 := by
  obtain ⟨i, xs, ys, rfl, hs, hgx, rfl⟩ := modO_l s.env hg e v hv
  obtain ⟨l, vs, rfl, h1, h2, h3⟩ := own_list s.env hs hv
  have hi := slot_some.mp hs
  obtain ⟨nz, u, hu, u1, u2, u3⟩ := s.env.ownZ ⟨i, _, hi, hv⟩
  refine ⟨l, xs, ys, vs, rfl, h1, h2, h3, hgx, fun ws few r => ⟨mod_list s hi hv h1 few r, ?_⟩⟩
  exact ⟨fun _ h => h, fun b w h z _ => by rw [upd_ne fun e => nz (by rw [← e]; exact z)]; exact h, fun b xs h => by rw [upd_ne fun e => by rw [e, hu] at h; cases h; exact u2 xs rfl]; exact h,
    fun b w k h => by rw [upd_ne fun e => by rw [e, hu] at h; cases h; exact u3 w k rfl]; exact h⟩
theorem gL_append {d : PL.D} : ∀ x y z, PL.gAppend d x = some (y, z) → ∃ xs ys, x = .l xs ∧ y = .l ys := fun x y z e => by
  cases x <;> (first | (cases e; done) | skip)
  rename_i xs
  obtain ⟨_, q⟩ := if_some e
  cases q
  exact ⟨_, _, rfl, rfl⟩
theorem gL_extend {d : PL.D} : ∀ x y z, PL.gExtendD d x = some (y, z) → ∃ xs ys, x = .l xs ∧ y = .l ys := fun x y z e => by
  cases d <;> (first | (cases e; done) | skip)
  cases x <;> (first | (cases e; done) | skip)
  rename_i xs
  obtain ⟨_, q⟩ := if_some e
  cases q
  exact ⟨_, _, rfl, rfl⟩
theorem gL_pop : ∀ x y z, PL.gPop x = some (y, z) → ∃ xs ys, x = .l xs ∧ y = .l ys := fun x y z e => by
  cases x <;> (first | (cases e; done) | skip)
  rename_i xs
  unfold PL.gPop at e
  dsimp only at e
  cases q : xs[xs.length - 1]? with
  | none => rw [q] at e; cases e
  | some d => rw [q] at e; cases e; exact ⟨_, _, rfl, rfl⟩
theorem gL_popi {d : PL.D} : ∀ x y z, PL.gPopi d x = some (y, z) → ∃ xs ys, x = .l xs ∧ y = .l ys := fun x y z e => by
  cases x <;> (first | (cases e; done) | skip)
  cases d <;> (first | (cases e; done) | skip)
  rename_i xs i
  unfold PL.gPopi at e
  dsimp only at e
  cases q : PL.ixN xs.length i with
  | none => rw [q] at e; cases e
  | some j =>
    rw [q] at e
    cases q2 : xs[j]? with
    | none =>
      have : (none : Option (PL.OV × PL.D)) = some (y, z) := by rw [← e]; show _ = Option.bind (some j) _; simp [q2]
      cases this
    | some d =>
      have e : (some (PL.OV.l (xs.eraseIdx j), d) : Option (PL.OV × PL.D)) = some (y, z) := by rw [← e]; show _ = Option.bind (some j) _; simp [q2]
      cases e
      exact ⟨_, _, rfl, rfl⟩
section
variable {W : WX} {x : Expr} {apos cpos : Pos}
theorem se_append (ha : PE X a (tE G W ra)) (hx : PE X x (tE G W rb)) (hbase : attributeBase a "append" X.env (eval a X.env) = eval a X.env)
    (hfew : ((backTo cpos (starEach [x] X.env)).all (fun y => !y.1) && (backToKw cpos (keywordEach [] X.env)).all (fun y => y.1.isSome) && decide (([x] : List Expr).length + ([] : List Keyword).length + (if ([] : List Keyword).isEmpty then 0 else 1) < 30)) = true)
    (hline : (apos.endLine == cpos.line) = true) (h1 : starEach [x] X.env = (false, eval x X.env) :: starEach [] X.env) :
    PE X (.Call (.Attribute a "append" apos) [x] [] cpos) (tE G W (PL.evMod ra (PL.evD rb) PL.gAppend)) :=
  (pe_bm PySem.F.plainAttrs_list PySem.F.slot_list_append PySem.F.type_list_append mt_append ha (pa_cons (se_d hx) pa_nil h1) hbase hfew hline h1 (by rfl)).imq fun σ H Q h => by
    obtain ⟨Z, ρ, I, o⟩ := h
    refine ⟨Z, ρ, I, o.bind.mono fun av ρ1 o1 v H1 Z1 s1 r1 => ?_⟩
    obtain ⟨hl, o1⟩ := if_ok o1
    obtain ⟨l0, vs0, ev0, hv0⟩ := isL_at s1.env r1 hl
    refine ⟨by rw [ev0]; exact tyL hv0, Z1, ρ1, s1.env, (Outc.bind (x := PL.evD rb ρ1) o1).at s1 |>.mono fun d ρ2 o2 u H2 Z2 s2 r2 => ?_⟩
    obtain ⟨z, ρ3, e3, o3⟩ := mod_bind o2
    obtain ⟨l, xs, ys, vs, ev, hv, few, rl, hg, k⟩ := modL (s1.trans s2) (r1.step s1.env s2) gL_append e3
    obtain ⟨few2, q⟩ := if_some hg
    cases q
    have few3 : vs.length < sizeLine := by rw [← rl.length, ← line_eq]; exact few2
    obtain ⟨st, xt⟩ := k (vs ++ [u]) (by rw [List.length_append]; exact few3) (RepL.append rl (RepL.one r2))
    exact ⟨l, vs, u, ev, rfl, hv, few3, o3 _ _ Z2 st ra_non⟩
theorem se_extend (ha : PE X a (tE G W ra)) (hx : PE X x (tE G W rb)) (hbase : attributeBase a "extend" X.env (eval a X.env) = eval a X.env)
    (hfew : ((backTo cpos (starEach [x] X.env)).all (fun y => !y.1) && (backToKw cpos (keywordEach [] X.env)).all (fun y => y.1.isSome) && decide (([x] : List Expr).length + ([] : List Keyword).length + (if ([] : List Keyword).isEmpty then 0 else 1) < 30)) = true)
    (hline : (apos.endLine == cpos.line) = true) (h1 : starEach [x] X.env = (false, eval x X.env) :: starEach [] X.env) :
    PE X (.Call (.Attribute a "extend" apos) [x] [] cpos) (tE G W (PL.evMod ra (PL.evNew rb) PL.gExtendD)) :=
  (pe_bm PySem.F.plainAttrs_list PySem.F.slot_list_extend PySem.F.type_list_extend mt_extend ha (pa_cons hx pa_nil h1) hbase hfew hline h1 (by rfl)).imq fun σ H Q h => by
    obtain ⟨Z, ρ, I, o⟩ := h
    refine ⟨Z, ρ, I, o.bind.mono fun av ρ1 o1 v H1 Z1 s1 r1 => ?_⟩
    obtain ⟨hl, o1⟩ := if_ok o1
    obtain ⟨l0, vs0, ev0, hv0⟩ := isL_at s1.env r1 hl
    refine ⟨by rw [ev0]; exact tyL hv0, Z1, ρ1, s1.env, (Outc.bind (x := rb ρ1) (Outc.bind (x := PL.evNew rb ρ1) o1)).at s1 |>.mono fun bv ρ2 o2 u H2 Z2 s2 r2 => ?_⟩
    cases bv with
    | f y =>
      cases y with
      | l ys0 =>
        obtain ⟨b, rfl, nb, nzb, nob, zs, hb, fewb, rb'⟩ := r2
        obtain ⟨z, ρ3, e3, o3⟩ := mod_bind (show Outc G W H σ ρ ((PL.ofO (PL.modO ρ2 av (PL.gExtendD (.lst ys0)))).bind _) _ from o2)
        obtain ⟨l, xs, ys, vs, ev, hv, few, rl, hg, k⟩ := modL (s1.trans s2) (r1.step s1.env s2) gL_extend e3
        obtain ⟨few2, q⟩ := if_some hg
        cases q
        have few3 : vs.length + zs.length ≤ sizeLine := by rw [← rl.length, ← rb'.length, ← line_eq]; exact few2
        obtain ⟨st, xt⟩ := k (vs ++ zs) (by rw [List.length_append]; exact few3) (RepL.append rl rb')
        exact ⟨l, b, vs, zs, ev, rfl, hv, hb, few3, o3 _ _ Z2 st ra_non⟩
      | _ => exact o2.elim
    | _ => exact o2.elim
theorem se_popi (ha : PE X a (tE G W ra)) (hx : PE X x (tE G W rb)) (hbase : attributeBase a "pop" X.env (eval a X.env) = eval a X.env)
    (hfew : ((backTo cpos (starEach [x] X.env)).all (fun y => !y.1) && (backToKw cpos (keywordEach [] X.env)).all (fun y => y.1.isSome) && decide (([x] : List Expr).length + ([] : List Keyword).length + (if ([] : List Keyword).isEmpty then 0 else 1) < 30)) = true)
    (hline : (apos.endLine == cpos.line) = true) (h1 : starEach [x] X.env = (false, eval x X.env) :: starEach [] X.env) :
    PE X (.Call (.Attribute a "pop" apos) [x] [] cpos) (tE G W (PL.evMod ra (PL.evD rb) PL.gPopi)) :=
  (pe_bm PySem.F.plainAttrs_list PySem.F.slot_list_pop PySem.F.type_list_pop mt_popAt ha (pa_cons (se_d hx) pa_nil h1) hbase hfew hline h1 (by rfl)).imq fun σ H Q h => by
    obtain ⟨Z, ρ, I, o⟩ := h
    refine ⟨Z, ρ, I, o.bind.mono fun av ρ1 o1 v H1 Z1 s1 r1 => ?_⟩
    obtain ⟨hl, o1⟩ := if_ok o1
    obtain ⟨l0, vs0, ev0, hv0⟩ := isL_at s1.env r1 hl
    refine ⟨by rw [ev0]; exact tyL hv0, Z1, ρ1, s1.env, (Outc.bind (x := PL.evD rb ρ1) o1).at s1 |>.mono fun d ρ2 o2 u H2 Z2 s2 r2 => ?_⟩
    obtain ⟨z, ρ3, e3, o3⟩ := mod_bind o2
    obtain ⟨l, xs, ys, vs, ev, hv, few, rl, hg, k⟩ := modL (s1.trans s2) (r1.step s1.env s2) gL_popi e3
    cases d <;> (first | (cases hg; done) | skip)
    rename_i i
    have r2 : G.R H2 Z2 (.int i) u := r2
    simp only [GS.R, Rep] at r2
    subst r2
    unfold PL.gPopi at hg
    dsimp only at hg
    cases q : PL.ixN xs.length i with
    | none => rw [q] at hg; cases hg
    | some j =>
      cases q2 : xs[j]? with
      | none =>
        rw [q] at hg
        have : (none : Option (PL.OV × PL.D)) = some (.l ys, z) := by rw [← hg]; show _ = Option.bind (some j) _; simp [q2]
        cases this
      | some d =>
        rw [q] at hg
        have hg : (some (PL.OV.l (xs.eraseIdx j), d) : Option (PL.OV × PL.D)) = some (.l ys, z) := by rw [← hg]; show _ = Option.bind (some j) _; simp [q2]
        cases hg
        obtain ⟨y, hy, ry⟩ := rl.get q2
        have ej : L2.ixN vs.length i = some j := by rw [ixN_eq, ← rl.length]; exact q
        obtain ⟨g1, g2, g3, g4⟩ := L2.ixN_seq ej
        have le := rl.eraseIdx j
        have lf : (vs.eraseIdx j).length ≤ sizeLine := Nat.le_trans (List.length_eraseIdx_le ..) few
        obtain ⟨st, xt⟩ := k (vs.eraseIdx j) lf le
        have big : sizeLine = 16777216 := sizeLine_eq
        exact ⟨l, vs, i, j, y, ev, rfl, hv, by omega, by omega, g1, hy, o3 _ _ Z2 st (Rep.ext xt _ _ ry)⟩
end
/-- xs[i] = y, of an owned list -/
theorem gL_set {i d : PL.D} : ∀ xs y z, PL.gSet i d (.l xs) = some (y, z) → ∃ k j, i = .int k ∧ PL.ixN xs.length k = some j ∧ y = .l (xs.set j d) := fun xs y z e => by
  cases i <;> (first | (cases e; done) | skip)
  rename_i k
  unfold PL.gSet at e
  dsimp only at e
  cases q : PL.ixN xs.length k with
  | none => rw [q] at e; cases e
  | some j => rw [q] at e; cases e; exact ⟨k, j, rfl, q, rfl⟩
end
end PLS
end

section
set_option Elab.async false
set_option linter.all false
set_option maxRecDepth 100000
set_option maxHeartbeats 4500000
/-! the soundness of P-lang: statements, the rest -/
namespace PLS
open PySem PySem.Spec PyProof.Rows L2 PySem.W
section
variable {G : GS} {E : XK} {X : Cx} {σ σ' σ1 : St} {H H' H1 H₀ : Hp} {Z Z' Z1 : Addr → Prop} {ρ ρ' ρ1 : PL.Env} {pos p p2 : Pos} {a b c : Expr} {ra rb rc : PL.Ev PL.AV} {D : Ends}
/-- xs[i] = v -/
theorem s_setI {o i e : Expr} {ro ri re : PL.Ev PL.AV} {tp : Pos} (ho : PE X o (tE G (wx E) ro)) (hi : PE X i (tE G (wx E) ri)) (he : PE X e (tE G (wx E) re)) (hs : swapsWithSole [.Subscript o i tp] e pos.line X.env = pure false) (hw : swappedStores [.Subscript o i tp] e X.env = pure none)
    (h1 : (assignEach [.Subscript o i tp] X.env).map (·.2) = [assign (.Subscript o i tp) X.env])
    (hn : ∀ lo hi' s q, i ≠ .Slice lo hi' s q) :
    PS X (.Assign [.Subscript o i tp] e pos) (tS G E fun ρ => (PL.evD re ρ).bind fun (d, ρ2) => (ro ρ2).bind fun (r, ρ3) => (PL.evD ri ρ3).bind fun (k, ρ5) =>
    if PL.isL ρ5 r = true then (PL.ofO (PL.modO ρ5 r (PL.gSet k d))).bind fun (_, ρ6) => .ok (.nx, ρ6) else .stuck) := (ps_asg (se_d he) (pg_sub ho (se_d hi) set_list fun v => by cases i <;> first | rfl | exact (hn _ _ _ _ rfl).elim) hs hw h1).imq fun D σ H h => by
  obtain ⟨Z, ρ, I, o⟩ := h
  refine ⟨Z, ρ, I, o.bind.mono fun d ρ1 o1 v H1 Z1 s1 r1 => ?_⟩
  refine ⟨Z1, ρ1, s1.env, (Outc.bind (x := ro ρ1) o1).at s1 |>.mono fun av ρ2 o2 u H2 Z2 s2 r2 => ?_⟩
  have s12 := s1.trans s2
  refine ⟨Z2, ρ2, s2.env, (Outc.bind (x := PL.evD ri ρ2) o2).at s12 |>.mono fun k ρ3 o3 w H3 Z3 s3 r3 => ?_⟩
  have s13 := s12.trans s3
  obtain ⟨hl, o3⟩ := if_ok o3
  obtain ⟨z, ρ4, e4, o4⟩ := mod_bind o3
  obtain ⟨l0, vs0, _, _⟩ := isL_at s3.env (r2.step s2.env s3) hl
  have hgL : ∀ x y z, (fun x => match x with | PL.OV.l xs => PL.gSet k d (.l xs) | _ => none) x = some (y, z) → ∃ xs ys, x = PL.OV.l xs ∧ y = PL.OV.l ys := fun x y z e => by
    cases x <;> (first | (cases e; done) | skip)
    obtain ⟨_, _, _, _, rfl⟩ := gL_set _ _ _ e
    exact ⟨_, _, rfl, rfl⟩
  have e4' : PL.modO ρ3 av (fun x => match x with | PL.OV.l xs => PL.gSet k d (.l xs) | _ => none) = some (z, ρ4) := by
    unfold PL.isL at hl
    unfold PL.modO at e4 ⊢
    split at hl
    · split at hl
      · rename_i i xs hs
        dsimp only at e4 ⊢
        rw [hs] at e4 ⊢
        exact e4
      · cases hl
    · cases hl
  obtain ⟨l, xs, ys, vs, ev, hv, few, rl, hg, kk⟩ := modL s13 (r2.step s2.env s3) hgL e4'
  obtain ⟨n, j, rfl, ej, ey⟩ := gL_set _ _ _ hg
  cases ey
  have r3 : G.R H3 Z3 (.int n) w := r3
  simp only [GS.R, Rep] at r3
  subst r3
  have x13 := (s2.trans s3).ext s1.env
  have lf : (vs.set j v).length ≤ sizeLine := by rw [List.length_set]; exact few
  obtain ⟨st, xt⟩ := kk (vs.set j v) lf (RepL.set (Rep.ext x13 _ _ r1) j rl)
  exact ⟨l, vs, n, j, ev, rfl, hv, by rw [ixN_eq, ← rl.length]; exact ej, o4 _ Z3 _ st⟩
/-- for -/
theorem for_r {tg : PL.Tg} {rs : PL.Ev (List PL.D)} {rb : PL.Ev PL.Fl} {D : Ends} (hio : ∀ i ∈ tgs tg, i ∉ G.IO)
    (h : tS G E (fun ρ => (rs ρ).bind fun (xs, ρ1) => PL.forGo (fun x ρ => (PL.ofO (PL.tgSet tg x ρ)).bind fun ρ2 => rb ρ2) xs ρ1) D σ H) : tFor (iSrc G (wx E) rs) (gD G tg) (tS G E rb) D σ H := by
  obtain ⟨Z, ρ, I, o⟩ := h
  refine ⟨Z, ρ, I, o.bind.mono fun xs ρ1 o1 vs H1 Z1 J s1 rl gv => ?_⟩
  have hlen := rl.length
  let Wp : Nat → Nat → St → Hp → Prop := fun i m σc Hc => m = vs.length - i ∧ i ≤ vs.length ∧ ∃ Zc ρc, REnv G Hc Zc σc ρc ∧ Ext H1 Z1 Hc Zc ∧
    Outc G (wx E) Hc σc ρc (PL.forGo (fun x ρ => (PL.ofO (PL.tgSet tg x ρ)).bind fun ρ2 => rb ρ2) (xs.drop i) ρc) (okS G D Hc Zc σc ρc)
  refine ⟨Wp, ⟨vs.length, by simp, Nat.zero_le _, Z1, ρ1, s1.env, Ext.refl _ _, ?_⟩, ?_⟩
  · rw [List.drop_zero]
    exact (Outc.at2 s1 o1).mono fun fl ρ' q => q.from s1
  · rintro i m σc Hc ⟨rfl, hi, Zc, ρc, Ic, xt, oc⟩
    rcases Nat.lt_or_ge i vs.length with hlt | hge
    · have hx : xs[i]? = some (xs[i]'(by omega)) := List.getElem?_eq_getElem (by omega)
      rw [List.drop_eq_getElem_cons (by omega)] at oc
      unfold PL.forGo at oc
      obtain ⟨ρ2, e2, o2⟩ := (Outc.bind oc).ofO
      obtain ⟨v, hv, rv⟩ := rl.get hx
      obtain ⟨g1, g2⟩ := (gv Hc Zc xt i).1 v hv
      refine .inr ⟨g1, Wp (i + 1) (vs.length - (i + 1)), fun σ' H' z => ⟨vs.length - (i + 1), by omega, z⟩, fun x' H' yld => ?_⟩
      obtain ⟨rfl, rfl⟩ := g2 x' H' yld
      refine ⟨Zc, ρc, xs[i]'(by omega), ρ2, Ic, Rep.ext xt _ _ rv, e2, fun ws E2 ow => ?_⟩
      have st : Step G H' Zc σc ρc H' Zc (setV (tgs tg) ws σc) ρ2 := (HStep.refl.less ow).step E2 fun j hj => setV_get fun z => hio j z hj
      refine ⟨Zc, ρ2, E2, (Outc.at2 st o2).mono fun fl ρ3 o3 => ?_⟩
      cases fl with
      | nx =>
        exact fun H3 Z3 σ3 s3 => ⟨rfl, by omega, Z3, ρ3, s3.env, xt.trans (s3.ext E2), (Outc.at2 (st.trans s3) o3).mono fun fl ρ' q => q.from (st.trans s3)⟩
      | rt rv' => exact fun v3 H3 Z3 σ3 s3 r3 => o3 v3 H3 Z3 σ3 (st.trans s3) (r3.from st)
    · rw [List.drop_eq_nil_of_le (by omega)] at oc
      exact .inl ⟨(gv Hc Zc xt i).2 hge, oc Hc Zc σc (Step.refl Ic)⟩
theorem s_for {tg : PL.Tg} {rs : PL.Ev (List PL.D)} {rb : PL.Ev PL.Fl} {tgE iter : Expr} {body : List Stmt} (hio : ∀ i ∈ tgs tg, i ∉ G.IO) (hp : PassesOwn (model X.prog X.w) X.A X.env X.xe) (hc : X.calm = true) (hi : PI X tgE iter (iSrc G (wx E) rs)) (hgt : PG X tgE (gD G tg)) (hb : PSs X body (tS G E rb))
    (hs : ∀ x, foldedSetIterable iter X.env x = pure x) : PS X (.For tgE iter body [] pos) (tS G E fun ρ => (rs ρ).bind fun (xs, ρ1) => PL.forGo (fun x ρ => (PL.ofO (PL.tgSet tg x ρ)).bind fun ρ2 => rb ρ2) xs ρ1) :=
  (ps_for hp hc hi hgt hb hs).imq fun D σ H h => for_r hio h
/-- return -/
theorem REnv.drop (I : REnv G H Z σ ρ) (i : Nat) : REnv G H Z σ (ρ.set i none) where
  len := by rw [List.length_set]; exact I.len
  at_ := fun j s e => by
    by_cases ij : i = j
    · subst ij
      have hl := (List.getElem?_eq_some_iff.mp e).1
      rw [List.length_set] at hl
      rw [List.getElem?_set_self hl] at e; cases e
    · rw [List.getElem?_set_ne ij] at e; exact I.at_ j s e
  apart := fun j k y s b h1 h2 h3 h4 h5 => by
    have hb : ∀ {k : Nat} {s : PL.SV}, (ρ.set i none)[k]? = some (some s) → ρ[k]? = some (some s) := fun {k s} e => by
      by_cases ik : i = k
      · subst ik
        have hl := (List.getElem?_eq_some_iff.mp e).1
        rw [List.length_set] at hl
        rw [List.getElem?_set_self hl] at e; cases e
      · rwa [List.getElem?_set_ne ik] at e
    exact I.apart j k y s b (hb h1) (hb h2) h3 h4 h5
  tabs := I.tabs
  zin := I.zin
theorem Own.drop {i : Nat} {l : Addr} (h : Own σ (ρ.set i none) l) : Own σ ρ l ∧ ∀ (I : REnv G H Z σ ρ) (x : PL.OV), ρ[i]? = some (some (.w x)) → σ[i]? ≠ some (some (.ref l)) := by
  obtain ⟨j, x, h1, h2⟩ := h
  by_cases ij : i = j
  · subst ij
    have hl := (List.getElem?_eq_some_iff.mp h1).1
    rw [List.length_set] at hl
    rw [List.getElem?_set_self hl] at h1; cases h1
  · rw [List.getElem?_set_ne ij] at h1
    exact ⟨⟨j, x, h1, h2⟩, fun I y hy e => ij (I.apart i j y _ l hy h1 (fun d q => by cases q) e h2)⟩
theorem s_ret (he : PE X a (tE G (wx E) ra)) : PS X (.Return (some a) pos) (tS G E fun ρ => (ra ρ).bind fun (x, ρ1) => match x with
    | .v d => .ok (.rt (.v d), ρ1)
    | .f y => .ok (.rt (.f y), ρ1)
    | .r i => match PL.slot ρ1 i with
      | some (.w y) => .ok (.rt (.f y), ρ1.set i none)
      | _ => .stuck
    | _ => .stuck) := (ps_ret he).imq fun D σ H h => by
  obtain ⟨Z, ρ, I, o⟩ := h
  refine ⟨Z, ρ, I, o.bind.mono fun av ρ1 o1 v H1 Z1 s1 r1 => ?_⟩
  cases av with
  | v d => exact o1 v H1 Z1 σ s1 r1
  | f y =>
    obtain ⟨l, rfl, n, nz, no, r⟩ := r1
    exact o1 _ H1 Z1 σ s1 ⟨l, rfl, .inl n, nz, no, r⟩
  | r i =>
    dsimp only at o1
    split at o1
    · rename_i y hs
      have hi := slot_some.mp hs
      obtain ⟨u, h1, l, rfl, nz, r⟩ := s1.env.at_ i _ hi
      have r1 : σ[i]? = some (some v) := r1
      rw [r1] at h1
      cases h1
      have s2 : Step G H Z σ ρ H1 Z1 σ (ρ1.set i none) := (s1.h.less fun b z => (Own.drop (G := G) (H := H1) (Z := Z1) z).1).step (s1.env.drop i) s1.fix
      exact o1 _ H1 Z1 σ s2 ⟨l, rfl, (s1.own l ⟨i, y, hi, r1⟩).symm, nz, fun z => (Own.drop z).2 s1.env y hi r1, r⟩
    · exact o1.elim
  | p i x => exact o1.elim
theorem s_retN : PS X (.Return none pos) (tS G E (PL.evK (.rt (.v .non)))) := ps_retN.imq fun D σ H h => by
  obtain ⟨Z, ρ, I, o⟩ := h
  exact o .non H Z σ (Step.refl I) (r_non (G := G) (H := H) (Z := Z))
/-- a, b = t -/
theorem s_asgT {is : List Nat} {es : List Expr} {k : Nat} {e : Expr} {re : PL.Ev PL.AV} (hio : ∀ i ∈ is, i ∉ G.IO) (he : PE X e (tE G (wx E) re)) (hgt : PG X (.Tuple es k p) (gD G (.many is))) (hs : swapsWithSole [.Tuple es k p] e pos.line X.env = pure false) (hw : swappedStores [.Tuple es k p] e X.env = pure none)
    (h1 : (assignEach [.Tuple es k p] X.env).map (·.2) = [assign (.Tuple es k p) X.env]) : PS X (.Assign [.Tuple es k p] e pos) (tS G E fun ρ => (PL.evD re ρ).bind fun (d, ρ2) => (PL.ofO (PL.tgSet (.many is) d ρ2)).bind fun ρ3 => .ok (.nx, ρ3)) :=
  (ps_asg (se_d he) hgt hs hw h1).imq fun D σ H h => by
    obtain ⟨Z, ρ, I, o⟩ := h
    refine ⟨Z, ρ, I, o.bind.mono fun d ρ1 o1 v H1 Z1 s1 r1 => ?_⟩
    obtain ⟨ρ2, e2, o2⟩ := o1.ofO
    refine ⟨Z1, ρ1, d, ρ2, s1.env, r1, e2, fun ws E2 ow => ?_⟩
    exact o2 H1 Z1 _ (s1.trans ((HStep.refl.less ow).step E2 fun j hj => setV_get fun z => hio j z hj))
end
end PLS
end

section
set_option Elab.async false
set_option linter.all false
set_option maxRecDepth 100000
set_option maxHeartbeats 4000000
/-! the soundness of P-lang: calls -/
namespace PLS
open PySem PySem.Spec PyProof.Rows L2 PySem.W
section
variable {G : GS} {E : XK} {X : Cx} {W : WX} {σ σ' σ1 : St} {H H' H1 H₀ : Hp} {Z Z' Z1 : Addr → Prop} {ρ ρ' ρ1 : PL.Env} {pos p p2 : Pos} {a b c : Expr} {ra rb rc : PL.Ev PL.AV} {D : Ends}
/-- no lambda, no alias -/
def noLam (ρ : PL.Env) : Prop := ∀ (i : Nat) (s : PL.SV), ρ[i]? = some (some s) → (∃ d, s = .d d) ∨ ∃ x, s = .w x
/-- with other lambdas, other lent slots -/
def GS.re (G : GS) (G' : GS) : Prop := G'.P = G.P ∧ G'.w = G.w ∧ G'.K = G.K ∧ G'.T = G.T
theorem REnv.re {G' : GS} (e : G.re G') (n : noLam ρ) (I : REnv G H Z σ ρ) : REnv G' H Z σ ρ := by
  obtain ⟨P, w, K, T, LA, IO, nl, nt, nd⟩ := G
  obtain ⟨P', w', K', T', LA', IO', nl', nt', nd'⟩ := G'
  obtain ⟨rfl, rfl, rfl, rfl⟩ := e
  refine ⟨I.len, fun i s h => ?_, I.apart, I.tabs, I.zin⟩
  obtain ⟨v, h1, h2⟩ := I.at_ i s h
  refine ⟨v, h1, ?_⟩
  rcases n i s h with ⟨d, rfl⟩ | ⟨x, rfl⟩
  · exact h2
  · exact h2
theorem RepO.re {G' : GS} (e : G.re G') {x : PL.OV} {l : Addr} (r : G.O H Z x l) : G'.O H Z x l := by
  obtain ⟨P, w, K, T, LA, IO, nl, nt, nd⟩ := G
  obtain ⟨P', w', K', T', LA', IO', nl', nt', nd'⟩ := G'
  obtain ⟨rfl, rfl, rfl, rfl⟩ := e
  exact r
theorem Rep.re {G' : GS} (e : G.re G') {x : PL.D} {l : V} (r : G.R H Z x l) : G'.R H Z x l := by
  obtain ⟨P, w, K, T, LA, IO, nl, nt, nd⟩ := G
  obtain ⟨P', w', K', T', LA', IO', nl', nt', nd'⟩ := G'
  obtain ⟨rfl, rfl, rfl, rfl⟩ := e
  exact r
theorem GS.re.symm {G' : GS} (e : G.re G') : G'.re G := ⟨e.1.symm, e.2.1.symm, e.2.2.1.symm, e.2.2.2.symm⟩
/-- the arguments behind a call -/
def lend : List PL.SV → List PL.OV → Option PL.Env
  | [], [] => some []
  | .w _ :: ss, x :: os => (lend ss os).map (some (.w x) :: ·)
  | .d d :: ss, os => (lend ss os).map (some (.d d) :: ·)
  | _, _ => none
/-- what a call gives -/
def RepC (G : GS) (H : Hp) (H' : Hp) (Z' : Addr → Prop) (σ' : St) (ρ' : PL.Env) : PL.RV → V → Prop
  | .v d, v => G.R H' Z' d v
  | .f x, v => ∃ a : Addr, v = .ref a ∧ H a = none ∧ ¬ Z' a ∧ ¬ Own σ' ρ' a ∧ G.O H' Z' x a
/-- a def's promise: r what the interpreter says of it -/
def spF (G : GS) (r : List PL.SV → PL.Res (PL.RV × List PL.OV)) : Sp := fun vs H Q E => ∃ Z ss, noLam (ss.map some) ∧ REnv G H Z (vs.map some) (ss.map some) ∧ match r ss with
  | .ok (rv, os) => ∀ v H' Z' ρ', lend ss os = some ρ' → HStep H Z (Own (vs.map some) (ss.map some)) H' Z' (Own (vs.map some) ρ') → REnv G H' Z' (vs.map some) ρ' → RepC G H H' Z' (vs.map some) ρ' rv v → Q v H'
  | .exc c ps => ∀ d H', Exc G c H (vs.map some) (ss.map some) ps d H' → E (.ref (He.ga G.K (Str.ofString c))) d H'
  | .stuck => False
/-- arguments: each as it came; what is new is apart -/
def RepAs (G : GS) (H₀ H : Hp) (Z : Addr → Prop) (σ : St) (ρ : PL.Env) : List PL.AV → List V → Prop
  | [], vs => vs = []
  | av :: as, vs => ∃ v r, vs = v :: r ∧ RepA G H₀ H Z σ ρ av v ∧ RepAs G H₀ H Z σ ρ as r ∧ ∀ x, av = .f x → ∀ (k : Nat) (y : PL.OV), as[k]? = some (.f y) → r[k]? ≠ some v
def tAs (G : GS) (W : WX) (r : PL.Ev (List PL.AV)) : TA := fun σ H Q => ∃ Z ρ, REnv G H Z σ ρ ∧ Outc G W H σ ρ (r ρ) fun as ρ' => ∀ vs H' Z', Step G H Z σ ρ H' Z' σ ρ' → RepAs G H H' Z' σ ρ' as vs → Q vs H'
theorem RepAs.new : ∀ {as : List PL.AV} {vs : List V}, RepAs G H₀ H Z σ ρ as vs → ∀ (k : Nat) (y : PL.OV), as[k]? = some (.f y) → ∃ l, vs[k]? = some (.ref l) ∧ H₀ l = none
  | [], _, _, k, y, e => by simp at e
  | av :: as, vs, h, 0, y, e => by
    obtain ⟨v, r, rfl, h1, h2, h3⟩ := h
    simp at e
    subst e
    obtain ⟨l, rfl, n, _⟩ := h1
    exact ⟨l, rfl, n⟩
  | av :: as, vs, h, k + 1, y, e => by
    obtain ⟨v, r, rfl, h1, h2, h3⟩ := h
    obtain ⟨l, e1, n⟩ := RepAs.new h2 k y (by simpa using e)
    exact ⟨l, by simpa using e1, n⟩
theorem RepAs.from {H₁ : Hp} (live : ∀ a, H₁ a = none → H₀ a = none) : ∀ {as : List PL.AV} {vs : List V}, RepAs G H₁ H Z σ ρ as vs → RepAs G H₀ H Z σ ρ as vs
  | [], _, h => h
  | av :: as, vs, h => by
    obtain ⟨v, r, e, h1, h2, h3⟩ := h
    exact ⟨v, r, e, h1.from live, RepAs.from live h2, h3⟩
theorem sp_nil : PA X [] (tAs G W (PL.evK [])) := pa_nil.imq fun σ H Q h => by
  obtain ⟨Z, ρ, I, o⟩ := h
  exact o [] H Z (Step.refl I) rfl
theorem sp_lent {es : List Expr} {rs : PL.Ev (List PL.AV)} (ha : PE X a (tE G W ra)) (hr : PA X es (tAs G W rs)) (hs : starEach (a :: es) X.env = (false, eval a X.env) :: starEach es X.env) :
    PA X (a :: es) (tAs G W fun ρ => (ra ρ).bind fun (x, ρ1) => (rs ρ1).bind fun (ds, ρ2) => .ok (x :: ds, ρ2)) := (pa_cons ha hr hs).imq fun σ H Q h => by
  obtain ⟨Z, ρ, I, o⟩ := h
  refine ⟨Z, ρ, I, o.bind.mono fun av ρ1 o1 v H1 Z1 s1 r1 => ?_⟩
  refine ⟨Z1, ρ1, s1.env, (Outc.bind (x := rs ρ1) o1).at s1 |>.mono fun as ρ2 o2 vs H2 Z2 s2 r2 => o2 (v :: vs) H2 Z2 (s1.trans s2) ⟨v, vs, rfl, r1.step s1.env s2, r2.from s1.live, fun x ex k y ey ev => ?_⟩⟩
  subst ex
  obtain ⟨l, e1, n⟩ := r2.new k y ey
  obtain ⟨l', rfl, _, _, _, ro⟩ := r1
  rw [e1] at ev
  cases ev
  obtain ⟨u, hu, _⟩ := RepO.kind ro
  rw [n] at hu; cases hu
theorem sp_data {es : List Expr} {rs : PL.Ev (List PL.AV)} (ha : PE X a (tE G W ra)) (hr : PA X es (tAs G W rs)) (hs : starEach (a :: es) X.env = (false, eval a X.env) :: starEach es X.env) :
    PA X (a :: es) (tAs G W fun ρ => (PL.evD ra ρ).bind fun (d, ρ2) => (rs ρ2).bind fun (ds, ρ3) => .ok (.v d :: ds, ρ3)) := (pa_cons (se_d ha) hr hs).imq fun σ H Q h => by
  obtain ⟨Z, ρ, I, o⟩ := h
  refine ⟨Z, ρ, I, o.bind.mono fun d ρ1 o1 v H1 Z1 s1 r1 => ?_⟩
  refine ⟨Z1, ρ1, s1.env, (Outc.bind (x := rs ρ1) o1).at s1 |>.mono fun as ρ2 o2 vs H2 Z2 s2 r2 => o2 (v :: vs) H2 Z2 (s1.trans s2) ⟨v, vs, rfl, Rep.ext (s2.ext s1.env) d v r1, r2.from s1.live, fun x ex => by cases ex⟩⟩
/-- the callee's frame -/
theorem pass_at (I : REnv G H Z σ ρ) : ∀ {bs : List Bool} {as : List PL.AV} {ss : List PL.SV} {vs : List V}, PL.passBy bs as ρ = some ss → RepAs G H₀ H Z σ ρ as vs → ∀ (k : Nat) (s : PL.SV), ss[k]? = some s →
    ∃ v, vs[k]? = some v ∧ ((∃ d, s = .d d ∧ as[k]? = some (.v d) ∧ bs[k]? = some false ∧ G.R H Z d v) ∨ (∃ i x l, s = .w x ∧ as[k]? = some (.r i) ∧ bs[k]? = some true ∧ PL.slot ρ i = some (.w x) ∧ v = .ref l ∧ σ[i]? = some (some (.ref l))) ∨
      ∃ x l, s = .w x ∧ as[k]? = some (.f x) ∧ bs[k]? = some true ∧ v = .ref l ∧ H₀ l = none ∧ ¬ Z l ∧ ¬ Own σ ρ l ∧ G.O H Z x l)
  | [], [], ss, vs, e, h, k, s, es => by cases e; simp at es
  | true :: bs, .r i :: as, ss, vs, e, h, k, s, es => by
    unfold PL.passBy at e
    split at e
    · rename_i x hs
      cases q : PL.passBy bs as ρ with
      | none => rw [q] at e; cases e
      | some tt =>
        rw [q] at e
        cases e
        obtain ⟨v, r, rfl, h1, h2, h3⟩ := h
        cases k with
        | zero =>
          simp at es
          subst es
          obtain ⟨u, g1, l, rfl, _⟩ := I.at_ i _ (slot_some.mp hs)
          have h1 : σ[i]? = some (some v) := h1
          rw [h1] at g1
          cases g1
          exact ⟨.ref l, rfl, .inr (.inl ⟨i, x, l, rfl, rfl, rfl, hs, rfl, h1⟩)⟩
        | succ k => exact (pass_at I q h2 k s (by simpa using es)).imp fun v hv => by simpa using hv
    · cases e
  | true :: bs, .f x :: as, ss, vs, e, h, k, s, es => by
    unfold PL.passBy at e
    cases q : PL.passBy bs as ρ with
    | none => rw [q] at e; cases e
    | some tt =>
      rw [q] at e
      cases e
      obtain ⟨v, r, rfl, h1, h2, h3⟩ := h
      cases k with
      | zero =>
        simp at es
        subst es
        obtain ⟨l, rfl, n, nz, no, ro⟩ := h1
        exact ⟨.ref l, rfl, .inr (.inr ⟨x, l, rfl, rfl, rfl, rfl, n, nz, no, ro⟩)⟩
      | succ k => exact (pass_at I q h2 k s (by simpa using es)).imp fun v hv => by simpa using hv
  | false :: bs, .v d :: as, ss, vs, e, h, k, s, es => by
    unfold PL.passBy at e
    cases q : PL.passBy bs as ρ with
    | none => rw [q] at e; cases e
    | some tt =>
      rw [q] at e
      cases e
      obtain ⟨v, r, rfl, h1, h2, h3⟩ := h
      cases k with
      | zero =>
        simp at es
        subst es
        exact ⟨v, rfl, .inl ⟨d, rfl, rfl, rfl, h1⟩⟩
      | succ k => exact (pass_at I q h2 k s (by simpa using es)).imp fun v hv => by simpa using hv
/-- the slots that are lent -/
def lentS : List Bool → List PL.AV → List Nat
  | true :: bs, .r i :: as => i :: lentS bs as
  | _ :: bs, _ :: as => lentS bs as
  | _, _ => []
theorem lentS_at {i : Nat} : ∀ {bs : List Bool} {as : List PL.AV}, i ∈ lentS bs as ↔ ∃ k : Nat, bs[k]? = some true ∧ as[k]? = some (PL.AV.r i)
  | [], as => by simp [lentS]
  | b :: bs, [] => by simp [lentS]
  | b :: bs, av :: as => by
    have ih := lentS_at (i := i) (bs := bs) (as := as)
    have step : (∃ k : Nat, (b :: bs)[k]? = some true ∧ (av :: as)[k]? = some (PL.AV.r i)) ↔ (b = true ∧ av = .r i) ∨ ∃ k : Nat, bs[k]? = some true ∧ as[k]? = some (PL.AV.r i) := by
      constructor
      · rintro ⟨k, h1, h2⟩
        cases k with
        | zero => simp at h1 h2; exact .inl ⟨h1, h2⟩
        | succ k => exact .inr ⟨k, by simpa using h1, by simpa using h2⟩
      · rintro (⟨rfl, rfl⟩ | ⟨k, h1, h2⟩)
        · exact ⟨0, rfl, rfl⟩
        · exact ⟨k + 1, by simpa using h1, by simpa using h2⟩
    rw [step, ← ih]
    cases b with
    | false => simp [lentS]
    | true =>
      cases av with
      | r j => simp only [lentS, List.mem_cons, true_and, PL.AV.r.injEq]; constructor <;> rintro (h | h) <;> first | exact .inl h.symm | exact .inr h
      | _ => simp [lentS]
theorem distinct_nodup : ∀ {bs : List Bool} {as : List PL.AV} {seen : List Nat}, PL.distinctR bs as seen = true → (lentS bs as).Nodup ∧ ∀ i ∈ lentS bs as, i ∉ seen
  | [], as, seen, _ => by simp [lentS]
  | b :: bs, [], seen, _ => by simp [lentS]
  | b :: bs, av :: as, seen, h => by
    cases b with
    | false =>
      have h : PL.distinctR bs as seen = true := by cases av <;> exact h
      have : lentS (false :: bs) (av :: as) = lentS bs as := by cases av <;> rfl
      rw [this]
      exact distinct_nodup h
    | true =>
      cases av with
      | r i =>
        unfold PL.distinctR at h
        rw [Bool.and_eq_true] at h
        obtain ⟨h1, h2⟩ := distinct_nodup h.2
        have n : i ∉ seen := fun z => by
          have := h.1
          rw [List.contains_iff_mem.mpr z] at this
          cases this
        show (i :: lentS bs as).Nodup ∧ ∀ j ∈ i :: lentS bs as, j ∉ seen
        refine ⟨List.nodup_cons.mpr ⟨fun z => h2 i z List.mem_cons_self, h1⟩, fun j hj => ?_⟩
        rcases List.mem_cons.mp hj with rfl | hj
        · exact n
        · exact fun z => h2 j hj (List.mem_cons_of_mem _ z)
      | v d => exact distinct_nodup (bs := bs) (as := as) (seen := seen) h
      | f x => exact distinct_nodup (bs := bs) (as := as) (seen := seen) h
      | p i x => exact distinct_nodup (bs := bs) (as := as) (seen := seen) h
/-- the slots behind a call -/
theorem backTo_at : ∀ {bs : List Bool} {as : List PL.AV} {ss : List PL.SV} {os : List PL.OV} {ρ₀ ρ ρ2 ρ' : PL.Env}, PL.passBy bs as ρ₀ = some ss → PL.backTo bs as os ρ = some ρ2 → lend ss os = some ρ' → (lentS bs as).Nodup → (∀ i ∈ lentS bs as, i < ρ.length) →
    ρ2.length = ρ.length ∧ (∀ j, j ∉ lentS bs as → ρ2[j]? = ρ[j]?) ∧ ∀ (k j : Nat), bs[k]? = some true → as[k]? = some (PL.AV.r j) → ∃ x, ρ2[j]? = some (some (PL.SV.w x)) ∧ ρ'[k]? = some (some (PL.SV.w x))
  | [], [], ss, os, ρ₀, ρ, ρ2, ρ', e1, e2, e3, nd, lt => by
    cases e1
    cases os with
    | cons _ _ => cases e2
    | nil =>
      cases e2
      exact ⟨rfl, fun _ _ => rfl, fun k j h => by simp at h⟩
  | true :: bs, .r i :: as, ss, os, ρ₀, ρ, ρ2, ρ', e1, e2, e3, nd, lt => by
    unfold PL.passBy at e1
    split at e1
    · rename_i x0 hs
      cases q : PL.passBy bs as ρ₀ with
      | none => rw [q] at e1; cases e1
      | some tt =>
        rw [q] at e1
        cases e1
        cases os with
        | nil => cases e2
        | cons x os =>
          unfold PL.backTo at e2
          unfold lend at e3
          cases q3 : lend tt os with
          | none => rw [q3] at e3; cases e3
          | some r' =>
            rw [q3] at e3
            cases e3
            have nd : (i :: lentS bs as).Nodup := nd
            obtain ⟨ni, nd⟩ := List.nodup_cons.mp nd
            have li : i < ρ.length := lt i (show i ∈ i :: lentS bs as from List.mem_cons_self)
            obtain ⟨h0, h1, h2⟩ := backTo_at q e2 q3 nd (fun j hj => by rw [List.length_set]; exact lt j (show j ∈ i :: lentS bs as from List.mem_cons_of_mem _ hj))
            refine ⟨by rw [h0, List.length_set], fun j hj => ?_, fun k j hk hj => ?_⟩
            · have hj : j ∉ i :: lentS bs as := hj
              rw [h1 j fun z => hj (List.mem_cons_of_mem _ z), List.getElem?_set_ne fun e => hj (by rw [e]; exact List.mem_cons_self)]
            · cases k with
              | zero =>
                simp at hj
                subst hj
                refine ⟨x, ?_, rfl⟩
                rw [h1 i ni, List.getElem?_set_self li]
              | succ k =>
                obtain ⟨y, g1, g2⟩ := h2 k j (by simpa using hk) (by simpa using hj)
                exact ⟨y, g1, by simpa using g2⟩
    · cases e1
  | true :: bs, .f x0 :: as, ss, os, ρ₀, ρ, ρ2, ρ', e1, e2, e3, nd, lt => by
    unfold PL.passBy at e1
    cases q : PL.passBy bs as ρ₀ with
    | none => rw [q] at e1; cases e1
    | some tt =>
      rw [q] at e1
      cases e1
      cases os with
      | nil => cases e2
      | cons x os =>
        unfold PL.backTo at e2
        unfold lend at e3
        cases q3 : lend tt os with
        | none => rw [q3] at e3; cases e3
        | some r' =>
          rw [q3] at e3
          cases e3
          obtain ⟨h0, h1, h2⟩ := backTo_at q e2 q3 nd lt
          refine ⟨h0, h1, fun k j hk hj => ?_⟩
          cases k with
          | zero => simp at hj
          | succ k =>
            obtain ⟨y, g1, g2⟩ := h2 k j (by simpa using hk) (by simpa using hj)
            exact ⟨y, g1, by simpa using g2⟩
  | false :: bs, .v d :: as, ss, os, ρ₀, ρ, ρ2, ρ', e1, e2, e3, nd, lt => by
    unfold PL.passBy at e1
    cases q : PL.passBy bs as ρ₀ with
    | none => rw [q] at e1; cases e1
    | some tt =>
      rw [q] at e1
      cases e1
      unfold PL.backTo at e2
      unfold lend at e3
      cases q3 : lend tt os with
      | none => rw [q3] at e3; cases e3
      | some r' =>
        rw [q3] at e3
        cases e3
        obtain ⟨h0, h1, h2⟩ := backTo_at q e2 q3 nd lt
        refine ⟨h0, h1, fun k j hk hj => ?_⟩
        cases k with
        | zero => simp at hk
        | succ k =>
          obtain ⟨y, g1, g2⟩ := h2 k j (by simpa using hk) (by simpa using hj)
          exact ⟨y, g1, by simpa using g2⟩
end
end PLS
end

section
set_option Elab.async false
set_option linter.all false
set_option maxRecDepth 100000
set_option maxHeartbeats 4000000
/-! the soundness of P-lang: calls, the core -/
namespace PLS
open PySem PySem.Spec PyProof.Rows L2 PySem.W
section
variable {G : GS} {E : XK} {X : Cx} {W : WX} {σ σ' σ1 : St} {H H' H1 H₀ : Hp} {Z Z' Z1 : Addr → Prop} {ρ ρ' ρ1 : PL.Env} {pos p p2 : Pos} {a b c : Expr} {ra rb rc : PL.Ev PL.AV} {D : Ends}
theorem HStep.ext {O' : Addr → Prop} (I : REnv G H Z σ ρ) (s : HStep H Z (Own σ ρ) H' Z' O') : Ext H Z H' Z' where
  zz := s.zz
  za := fun a o h z t => s.keep a o h (fun q => (I.ownZ q).1 z) t
  tup := fun a xs h => s.keep a _ h (fun q => by
    obtain ⟨_, o, e, _, n, _⟩ := I.ownZ q
    rw [h] at e; cases e; exact n xs rfl) (fun ps q => by cases q)
  frz := fun a o u h => s.keep a _ h (fun q => by
    obtain ⟨_, o', e, _, _, n⟩ := I.ownZ q
    rw [h] at e; cases e; exact n o u rfl) (fun ps q => by cases q)
theorem RepAs.len : ∀ {as : List PL.AV} {vs : List V}, RepAs G H₀ H Z σ ρ as vs → as.length = vs.length
  | [], _, h => by cases h; rfl
  | av :: as, vs, h => by
    obtain ⟨v, r, rfl, _, h2, _⟩ := h
    rw [List.length_cons, List.length_cons, RepAs.len h2]
theorem passBy_len : ∀ {bs : List Bool} {as : List PL.AV} {ss : List PL.SV}, PL.passBy bs as ρ = some ss → ss.length = as.length
  | [], [], ss, e => by cases e; rfl
  | true :: bs, .r i :: as, ss, e => by
    unfold PL.passBy at e
    split at e
    · cases q : PL.passBy bs as ρ with
      | none => rw [q] at e; cases e
      | some tt => rw [q] at e; cases e; rw [List.length_cons, List.length_cons, passBy_len q]
    · cases e
  | true :: bs, .f x :: as, ss, e => by
    unfold PL.passBy at e
    cases q : PL.passBy bs as ρ with
    | none => rw [q] at e; cases e
    | some tt => rw [q] at e; cases e; rw [List.length_cons, List.length_cons, passBy_len q]
  | false :: bs, .v d :: as, ss, e => by
    unfold PL.passBy at e
    cases q : PL.passBy bs as ρ with
    | none => rw [q] at e; cases e
    | some tt => rw [q] at e; cases e; rw [List.length_cons, List.length_cons, passBy_len q]
theorem lend_at : ∀ {ss : List PL.SV} {os : List PL.OV} {ρ' : PL.Env}, lend ss os = some ρ' → ρ'.length = ss.length ∧ ∀ (k : Nat) (x : PL.OV), ss[k]? = some (PL.SV.w x) → ∃ y, ρ'[k]? = some (some (PL.SV.w y))
  | [], [], ρ', e => by cases e; exact ⟨rfl, fun k x h => by simp at h⟩
  | .w x0 :: ss, x :: os, ρ', e => by
    unfold lend at e
    cases q : lend ss os with
    | none => rw [q] at e; cases e
    | some r =>
      rw [q] at e; cases e
      obtain ⟨h1, h2⟩ := lend_at q
      refine ⟨by rw [List.length_cons, List.length_cons, h1], fun k y hk => ?_⟩
      cases k with
      | zero => exact ⟨x, rfl⟩
      | succ k => obtain ⟨z, hz⟩ := h2 k y (by simpa using hk); exact ⟨z, by simpa using hz⟩
  | .d d :: ss, os, ρ', e => by
    unfold lend at e
    cases q : lend ss os with
    | none => rw [q] at e; cases e
    | some r =>
      rw [q] at e; cases e
      obtain ⟨h1, h2⟩ := lend_at q
      refine ⟨by rw [List.length_cons, List.length_cons, h1], fun k y hk => ?_⟩
      cases k with
      | zero => simp at hk
      | succ k => obtain ⟨z, hz⟩ := h2 k y (by simpa using hk); exact ⟨z, by simpa using hz⟩
theorem map_at {α : Type} {xs : List α} {k : Nat} {x : α} (h : (xs.map some)[k]? = some (some x)) : xs[k]? = some x := by
  rw [List.getElem?_map] at h
  cases e : xs[k]? with
  | none => rw [e] at h; cases h
  | some y => rw [e] at h; cases h; rfl
theorem map_to {α : Type} {xs : List α} {k : Nat} {x : α} (h : xs[k]? = some x) : (xs.map some)[k]? = some (some x) := by
  rw [List.getElem?_map, h]; rfl
theorem RepX.re {G' : GS} (e : G.re G') {c : String} {ps : List PL.D} {d : Option Addr} (r : RepX G c H ps d) : RepX G' c H ps d := by
  obtain ⟨P, w, K, T, LA, IO, nl, nt, nd⟩ := G
  obtain ⟨P', w', K', T', LA', IO', nl', nt', nd'⟩ := G'
  obtain ⟨rfl, rfl, rfl, rfl⟩ := e
  exact r
theorem Tabs.re {G' : GS} (e : G.re G') (r : LamX.Tabs G.T H) : LamX.Tabs G'.T H := by rw [e.2.2.2]; exact r
theorem lent_inj {i : Nat} : ∀ {bs : List Bool} {as : List PL.AV} {k m : Nat}, (lentS bs as).Nodup → bs[k]? = some true → as[k]? = some (PL.AV.r i) → bs[m]? = some true → as[m]? = some (PL.AV.r i) → k = m
  | [], as, k, m, _, h, _, _, _ => by simp at h
  | b :: bs, [], k, m, _, _, h, _, _ => by simp at h
  | b :: bs, av :: as, k, m, nd, h1, h2, h3, h4 => by
    have tail : (lentS bs as).Nodup ∧ (b = true → av = .r i → i ∉ lentS bs as) := by
      cases b with
      | false => cases av <;> exact ⟨nd, fun z => by cases z⟩
      | true =>
        cases av with
        | r j =>
          have nd : (j :: lentS bs as).Nodup := nd
          obtain ⟨n1, n2⟩ := List.nodup_cons.mp nd
          exact ⟨n2, fun _ e => by cases e; exact n1⟩
        | _ => exact ⟨nd, fun _ e => by cases e⟩
    cases k with
    | zero =>
      cases m with
      | zero => rfl
      | succ m =>
        simp at h1 h2
        exact absurd (lentS_at.mpr ⟨m, by simpa using h3, by simpa using h4⟩) (tail.2 h1 h2)
    | succ k =>
      cases m with
      | zero =>
        simp at h3 h4
        exact absurd (lentS_at.mpr ⟨k, by simpa using h1, by simpa using h2⟩) (tail.2 h3 h4)
      | succ m => rw [lent_inj tail.1 (k := k) (m := m) (by simpa using h1) (by simpa using h2) (by simpa using h3) (by simpa using h4)]
theorem new_inj {x y : PL.OV} {v : V} : ∀ {as : List PL.AV} {vs : List V} {k m : Nat}, RepAs G H₀ H Z σ ρ as vs → as[k]? = some (PL.AV.f x) → as[m]? = some (PL.AV.f y) → vs[k]? = some v → vs[m]? = some v → k = m
  | [], vs, k, m, r, h, _, _, _ => by simp at h
  | av :: as, vs, k, m, r, h1, h2, h3, h4 => by
    obtain ⟨u, r', rfl, g1, g2, g3⟩ := r
    cases k with
    | zero =>
      cases m with
      | zero => rfl
      | succ m =>
        simp at h1 h3
        subst h3
        exact absurd (by simpa using h4) (g3 x h1 m y (by simpa using h2))
    | succ k =>
      cases m with
      | zero =>
        simp at h2 h4
        subst h4
        exact absurd (by simpa using h3) (g3 y h2 k x (by simpa using h1))
      | succ m => rw [new_inj g2 (k := k) (m := m) (by simpa using h1) (by simpa using h2) (by simpa using h3) (by simpa using h4)]
theorem lend_no : ∀ {ss : List PL.SV} {os : List PL.OV} {ρ' : PL.Env}, lend ss os = some ρ' → noLam ρ'
  | [], [], ρ', e, k, s, h => by cases e; simp at h
  | .w x0 :: ss, x :: os, ρ', e, k, s, h => by
    unfold lend at e
    cases q : lend ss os with
    | none => rw [q] at e; cases e
    | some r =>
      rw [q] at e; cases e
      cases k with
      | zero => simp at h; exact .inr ⟨x, h.symm⟩
      | succ k => exact lend_no q k s (by simpa using h)
  | .d d :: ss, os, ρ', e, k, s, h => by
    unfold lend at e
    cases q : lend ss os with
    | none => rw [q] at e; cases e
    | some r =>
      rw [q] at e; cases e
      cases k with
      | zero => simp at h; exact .inl ⟨d, h.symm⟩
      | succ k => exact lend_no q k s (by simpa using h)
theorem call_core {G' : GS} (hre : G.re G') {cl : List PL.SV → PL.Res (PL.RV × List PL.OV)} {bs : List Bool} {as : List PL.AV} {vs : List V} {Q : VK} (s1 : Step G H Z σ ρ H1 Z1 σ ρ1) (ra : RepAs G H H1 Z1 σ ρ1 as vs)
    (o : Outc G (wx E) H σ ρ (if PL.distinctR bs as [] = true then (PL.ofO (PL.passBy bs as ρ1)).bind fun ss => (cl ss).bind fun (r, os) => (PL.ofO (PL.backTo bs as os ρ1)).bind fun ρ2 => match r with
      | .v d => .ok (.v d, ρ2)
      | .f x => .ok (.f x, ρ2)
      else .stuck) fun av ρ' => ∀ v H' Z', Step G H Z σ ρ H' Z' σ ρ' → RepA G H H' Z' σ ρ' av v → Q v H') : spF G' cl vs H1 Q E := by
  obtain ⟨hd, o⟩ := if_ok o
  obtain ⟨ss, ep, o⟩ := o.ofO
  have I1 := s1.env
  obtain ⟨hnd, -⟩ := distinct_nodup hd
  have hlen : vs.length = ss.length := by rw [passBy_len ep, ra.len]
  have pa := pass_at I1 ep ra
  have nol : noLam (ss.map some) := fun k s h => by
    obtain ⟨v, _, q⟩ := pa k s (map_at h)
    rcases q with ⟨d, rfl, _⟩ | ⟨i, x, l, rfl, _⟩ | ⟨x, l, rfl, _⟩
    · exact .inl ⟨d, rfl⟩
    · exact .inr ⟨x, rfl⟩
    · exact .inr ⟨x, rfl⟩
  -- what the callee owns
  have owa : ∀ l, Own (vs.map some) (ss.map some) l → (∃ x, G.O H1 Z1 x l) ∧ ((∃ i x, i ∈ lentS bs as ∧ ρ1[i]? = some (some (PL.SV.w x)) ∧ σ[i]? = some (some (V.ref l))) ∨ (H l = none ∧ ¬ Z1 l ∧ ¬ Own σ ρ1 l)) := fun l ⟨k, x, h1, h2⟩ => by
    obtain ⟨v, hv, q⟩ := pa k _ (map_at h1)
    rw [map_at h2] at hv
    cases hv
    rcases q with ⟨d, e, _⟩ | ⟨i, y, l', e, e1, e2, e3, e4, e5⟩ | ⟨y, l', e, e1, e2, e4, n, nz, no, ro⟩
    · cases e
    · cases e
      cases e4
      obtain ⟨u, g1, l2, g2, _, ro⟩ := I1.at_ i _ (slot_some.mp e3)
      rw [e5] at g1
      cases g1
      cases g2
      exact ⟨⟨_, ro⟩, .inl ⟨i, _, lentS_at.mpr ⟨k, e2, e1⟩, slot_some.mp e3, e5⟩⟩
    · cases e
      cases e4
      exact ⟨⟨_, ro⟩, .inr ⟨n, nz, no⟩⟩
  have envA : REnv G H1 Z1 (vs.map some) (ss.map some) := by
    refine ⟨by rw [List.length_map, List.length_map]; exact hlen, fun k s h => ?_, fun k m x s l h1 h2 h3 h4 h5 => ?_, I1.tabs, I1.zin⟩
    · obtain ⟨v, hv, q⟩ := pa k s (map_at h)
      refine ⟨v, map_to hv, ?_⟩
      rcases q with ⟨d, rfl, _, _, r⟩ | ⟨i, x, l, rfl, _, _, e3, rfl, e5⟩ | ⟨x, l, rfl, _, _, rfl, n, nz, no, ro⟩
      · exact r
      · obtain ⟨u, g1, l2, g2, nz, ro⟩ := I1.at_ i _ (slot_some.mp e3)
        rw [e5] at g1
        cases g1
        cases g2
        exact ⟨l, rfl, nz, ro⟩
      · exact ⟨l, rfl, nz, ro⟩
    · obtain ⟨v, hv, q⟩ := pa k _ (map_at h1)
      obtain ⟨v', hv', q'⟩ := pa m _ (map_at h2)
      rw [map_at h4] at hv
      rw [map_at h5] at hv'
      cases hv
      cases hv'
      rcases q with ⟨d, e, _⟩ | ⟨i, y, l1, e, e1, e2, e3, e4, e5⟩ | ⟨y, l1, e, e1, e2, e4, n, nz, no, ro⟩
      · cases e
      · cases e4
        rcases q' with ⟨d, e', _⟩ | ⟨j, y', l2, e', f1, f2, f3, f4, f5⟩ | ⟨y', l2, e', f1, f2, f4, n, nz, no, ro⟩
        · exact absurd e' (h3 d)
        · cases f4
          have ij := I1.apart i j _ _ l (slot_some.mp e3) (slot_some.mp f3) (fun d q => by cases q) e5 f5
          subst ij
          exact lent_inj hnd e2 e1 f2 f1
        · cases f4
          exact (no ⟨i, _, slot_some.mp e3, e5⟩).elim
      · cases e4
        rcases q' with ⟨d, e', _⟩ | ⟨j, y', l2, e', f1, f2, f3, f4, f5⟩ | ⟨y', l2, e', f1, f2, f4, n', nz', no', ro'⟩
        · exact absurd e' (h3 d)
        · cases f4
          exact (no ⟨j, _, slot_some.mp f3, f5⟩).elim
        · cases f4
          exact new_inj ra e1 f1 (map_at h4) (map_at h5)
  refine ⟨Z1, ss, nol, envA.re hre nol, ?_⟩
  cases er : cl ss with
  | stuck => rw [er] at o; exact o.elim
  | exc cls ps =>
    rw [er] at o
    intro d H' x
    rw [hre.2.2.1]
    refine o d H' ⟨fun l u h n t => ?_, fun l h => s1.live l (x.live l h), Tabs.re hre.symm x.tabs, RepX.re hre.symm x.pay⟩
    refine x.keep l u (s1.keep l u h n t) (fun q => ?_) t
    rcases (owa l q).2 with ⟨i, y, _, h1, h2⟩ | ⟨n0, _⟩
    · exact (s1.own l ⟨i, y, h1, h2⟩).elim n fun e => by rw [h] at e; cases e
    · rw [h] at n0; cases n0
  | ok x =>
    obtain ⟨rv, os⟩ := x
    rw [er] at o
    intro v H' Z' ρ' el hst env' rc
    obtain ⟨ρ2, eb, o⟩ := (show Outc G (wx E) H σ ρ ((PL.ofO (PL.backTo bs as os ρ1)).bind _) _ from o).ofO
    have env' := env'.re hre.symm (lend_no el)
    have xt := HStep.ext envA hst
    have ln : ∀ i ∈ lentS bs as, ∃ (k : Nat) (x : PL.OV), bs[k]? = some true ∧ as[k]? = some (PL.AV.r i) ∧ ss[k]? = some (PL.SV.w x) ∧ ρ1[i]? = some (some (PL.SV.w x)) ∧ ∃ l, vs[k]? = some (V.ref l) ∧ σ[i]? = some (some (V.ref l)) := fun i hi => by
      obtain ⟨k, h1, h2⟩ := lentS_at.mp hi
      have hk : k < ss.length := by rw [passBy_len ep]; exact (List.getElem?_eq_some_iff.mp h2).1
      obtain ⟨v, hv, q⟩ := pa k _ (List.getElem?_eq_getElem hk)
      rcases q with ⟨d, e, e1, _⟩ | ⟨j, y, l', e, e1, e2, e3, e4, e5⟩ | ⟨y, l', e, e1, _⟩
      · rw [h2] at e1; cases e1
      · rw [h2] at e1
        cases e1
        subst e4
        exact ⟨k, y, h1, h2, by rw [List.getElem?_eq_getElem hk, e], slot_some.mp e3, l', hv, e5⟩
      · rw [h2] at e1; cases e1
    have hlt : ∀ i ∈ lentS bs as, i < ρ1.length := fun i hi => by
      obtain ⟨k, x, _, _, _, h, _⟩ := ln i hi
      exact (List.getElem?_eq_some_iff.mp h).1
    obtain ⟨bl, bout, bin⟩ := backTo_at ep eb el hnd hlt
    -- a slot behind the call: lent, or as it was
    have behind : ∀ (j : Nat) (s : PL.SV), ρ2[j]? = some (some s) → (∃ k x y l, s = .w x ∧ ρ'[k]? = some (some (PL.SV.w x)) ∧ ρ1[j]? = some (some (PL.SV.w y)) ∧ vs[k]? = some (V.ref l) ∧ σ[j]? = some (some (V.ref l))) ∨ (j ∉ lentS bs as ∧ ρ1[j]? = some (some s)) := fun j s h => by
      by_cases hj : j ∈ lentS bs as
      · obtain ⟨k, x, h1, h2, h3, h4, l, h5, h6⟩ := ln j hj
        obtain ⟨y, g1, g2⟩ := bin k j h1 h2
        rw [g1] at h
        cases h
        exact .inl ⟨k, y, x, l, rfl, g2, h4, h5, h6⟩
      · rw [bout j hj] at h
        exact .inr ⟨hj, h⟩
    have env2 : REnv G H' Z' σ ρ2 := by
      refine ⟨by rw [bl]; exact I1.len, fun j s h => ?_, fun i j x s l h1 h2 h3 h4 h5 => ?_, env'.tabs, env'.zin⟩
      · rcases behind j s h with ⟨k, x, y, l, rfl, e1, e2, e3, e4⟩ | ⟨hj, h1⟩
        · obtain ⟨u, g1, g2⟩ := env'.at_ k _ e1
          rw [map_to e3] at g1
          cases g1
          exact ⟨_, e4, g2⟩
        · obtain ⟨u, g1, g2⟩ := I1.at_ j s h1
          refine ⟨u, g1, ?_⟩
          cases s with
          | d d => exact Rep.ext xt d u g2
          | w x =>
            obtain ⟨l, rfl, nz, ro⟩ := g2
            have no : ¬ Own (vs.map some) (ss.map some) l := fun z => by
              rcases (owa l z).2 with ⟨i, y, hi, q1, q2⟩ | ⟨_, _, q⟩
              · exact hj (I1.apart i j y _ l q1 h1 (fun d q => by cases q) q2 g1 ▸ hi)
              · exact q ⟨j, x, h1, g1⟩
            refine ⟨l, rfl, fun z => ?_, RepO.ext xt (fun o ho t => hst.keep l o ho no t) ro⟩
            rcases hst.zn l z with q | q | q
            · exact nz q
            · obtain ⟨o, ho, _⟩ := RepO.kind ro; rw [q] at ho; cases ho
            · exact no q
          | lam n =>
            obtain ⟨f, rfl, h3⟩ := g2
            refine ⟨f, rfl, hst.keep f _ h3 (fun z => ?_) (G.nt n f)⟩
            obtain ⟨⟨x, ro⟩, _⟩ := owa f z
            exact RepO.notLA ro h3
          | ali m q => exact g2
      · rcases behind i _ h1 with ⟨k, x', y, l', _, _, e2, _, e4⟩ | ⟨_, g1⟩
        · rcases behind j s h2 with ⟨k2, x2, y2, l2, _, _, f2, _, f4⟩ | ⟨_, g2⟩
          · exact I1.apart i j y _ l e2 f2 (fun d q => by cases q) h4 h5
          · exact I1.apart i j y s l e2 g2 h3 h4 h5
        · rcases behind j s h2 with ⟨k2, x2, y2, l2, _, _, f2, _, f4⟩ | ⟨_, g2⟩
          · exact I1.apart i j x _ l g1 f2 (fun d q => by cases q) h4 h5
          · exact I1.apart i j x s l g1 g2 h3 h4 h5
    have own2 : ∀ l, Own σ ρ2 l → Own σ ρ1 l := fun l ⟨j, x, h1, h2⟩ => by
      rcases behind j _ h1 with ⟨k, x', y, l', _, _, e2, _, e4⟩ | ⟨_, g1⟩
      · exact ⟨j, y, e2, h2⟩
      · exact ⟨j, x, g1, h2⟩
    have st : Step G H Z σ ρ H' Z' σ ρ2 := by
      refine ⟨env2, fun l z => hst.zz l (s1.zz l z), fun l z => ?_, fun l u h n t => ?_, fun l z => s1.own l (own2 l z), fun l h => s1.live l (hst.live l h), fun _ _ => rfl⟩
      · rcases hst.zn l z with q | q | q
        · exact s1.zn l q
        · exact .inr (.inl (s1.live l q))
        · exfalso
          obtain ⟨k, x, h1, h2⟩ := q
          obtain ⟨y, hy⟩ := (lend_at el).2 k x (map_at h1)
          obtain ⟨u, g1, l', g2, nz, _⟩ := env'.at_ k _ hy
          rw [h2] at g1
          cases g1
          cases g2
          exact nz z
      · refine hst.keep l u (s1.keep l u h n t) (fun q => ?_) t
        rcases (owa l q).2 with ⟨i, y, _, h1, h2⟩ | ⟨n0, _⟩
        · exact (s1.own l ⟨i, y, h1, h2⟩).elim n fun e => by rw [h] at e; cases e
        · rw [h] at n0; cases n0
    cases rv with
    | v d => exact o v H' Z' st (Rep.re hre.symm rc)
    | f x =>
      obtain ⟨l, rfl, n, nz, no, ro⟩ := rc
      refine o _ H' Z' st ⟨l, rfl, s1.live l n, nz, fun z => ?_, RepO.re hre.symm ro⟩
      obtain ⟨_, u, hu, _⟩ := I1.ownZ (own2 l z)
      rw [n] at hu; cases hu
end
end PLS
end

section
set_option Elab.async false
set_option linter.all false
set_option maxRecDepth 100000
set_option maxHeartbeats 4000000
/-! the soundness of P-lang: defs -/
namespace PLS
open PySem PySem.Spec PyProof.Rows L2 PySem.W
section
variable {G : GS} {E : XK} {X : Cx} {W : WX} {σ σ' σ1 : St} {H H' H1 H₀ : Hp} {Z Z' Z1 : Addr → Prop} {ρ ρ' ρ1 : PL.Env}
theorem okArgs_len : ∀ {bs : List Bool} {ss : List PL.SV}, PL.okArgs bs ss = true → ss.length = bs.length
  | [], [], _ => rfl
  | true :: bs, .w x :: ss, h => by rw [List.length_cons, List.length_cons, okArgs_len (bs := bs) h]
  | false :: bs, .d x :: ss, h => by rw [List.length_cons, List.length_cons, okArgs_len (bs := bs) h]
theorem okArgs_at : ∀ {bs : List Bool} {ss : List PL.SV} {k : Nat} {x : PL.OV}, PL.okArgs bs ss = true → ss[k]? = some (.w x) → bs[k]? = some true
  | [], [], k, x, _, e => by simp at e
  | true :: bs, .w y :: ss, 0, x, h, e => rfl
  | true :: bs, .w y :: ss, k + 1, x, h, e => by simpa using okArgs_at (bs := bs) h (by simpa using e)
  | false :: bs, .d y :: ss, 0, x, h, e => by simp at e
  | false :: bs, .d y :: ss, k + 1, x, h, e => by simpa using okArgs_at (bs := bs) h (by simpa using e)
theorem lend_outs : ∀ {bs : List Bool} {ss : List PL.SV} {os : List PL.OV} {ρ : PL.Env}, PL.okArgs bs ss = true → PL.outs bs ρ = some os → ∃ ρ1, lend ss os = some ρ1 ∧ ∀ (k : Nat) (t : PL.SV), ρ1[k]? = some (some t) → (∃ d, t = .d d ∧ ss[k]? = some (.d d)) ∨ ∃ x y, t = .w x ∧ ss[k]? = some (.w y) ∧ ρ[k]? = some (some (.w x)) ∧ bs[k]? = some true
  | [], [], os, ρ, _, e => by
    unfold PL.outs at e
    cases e
    exact ⟨[], rfl, fun k t h => by simp at h⟩
  | true :: bs, .w y :: ss, os, ρ, h, e => by
    cases ρ with
    | nil => cases e
    | cons s r =>
      unfold PL.outs at e
      dsimp only at e
      rw [if_pos rfl] at e
      split at e
      · rename_i x
        cases q : PL.outs bs r with
        | none => rw [q] at e; cases e
        | some os' =>
          rw [q] at e
          cases e
          obtain ⟨ρ1, h1, h2⟩ := lend_outs (bs := bs) h q
          refine ⟨some (.w x) :: ρ1, by unfold lend; rw [h1]; rfl, fun k t ht => ?_⟩
          cases k with
          | zero => simp at ht; exact .inr ⟨x, y, ht.symm, rfl, rfl, rfl⟩
          | succ k =>
            rcases h2 k t (by simpa using ht) with ⟨d, e1, e2⟩ | ⟨x', y', e1, e2, e3, e4⟩
            · exact .inl ⟨d, e1, by simpa using e2⟩
            · exact .inr ⟨x', y', e1, by simpa using e2, by simpa using e3, by simpa using e4⟩
      · cases e
  | false :: bs, .d y :: ss, os, ρ, h, e => by
    cases ρ with
    | nil => cases e
    | cons s r =>
      unfold PL.outs at e
      dsimp only at e
      rw [if_neg Bool.false_ne_true] at e
      obtain ⟨ρ1, h1, h2⟩ := lend_outs (bs := bs) h e
      refine ⟨some (.d y) :: ρ1, by unfold lend; rw [h1]; rfl, fun k t ht => ?_⟩
      cases k with
      | zero => simp at ht; exact .inl ⟨y, ht.symm, rfl⟩
      | succ k =>
        rcases h2 k t (by simpa using ht) with ⟨d, e1, e2⟩ | ⟨x', y', e1, e2, e3, e4⟩
        · exact .inl ⟨d, e1, by simpa using e2⟩
        · exact .inr ⟨x', y', e1, by simpa using e2, by simpa using e3, by simpa using e4⟩
theorem pad_some {α : Type} {xs : List (Option α)} {n k : Nat} {x : α} (h : (xs ++ List.replicate n none)[k]? = some (some x)) : xs[k]? = some (some x) := by
  by_cases hk : k < xs.length
  · rwa [List.getElem?_append_left hk] at h
  · rw [List.getElem?_append_right (by omega)] at h
    by_cases hn : k - xs.length < n
    · rw [List.getElem?_replicate_of_lt hn] at h; cases h
    · rw [List.getElem?_eq_none (by simpa using hn)] at h; cases h
theorem pad_to {α : Type} {xs : List (Option α)} {n k : Nat} {x : α} (h : xs[k]? = some (some x)) : (xs ++ List.replicate n none)[k]? = some (some x) := by
  rw [List.getElem?_append_left (List.getElem?_eq_some_iff.mp h).1]
  exact h
theorem REnv.pad {n m : Nat} (I : REnv G H Z σ ρ) (e : n = m) : REnv G H Z (σ ++ List.replicate n none) (ρ ++ List.replicate m none) := by
  subst e
  refine ⟨by rw [List.length_append, List.length_append, I.len, List.length_replicate, List.length_replicate], fun i s h => ?_, fun i j x s a h1 h2 h3 h4 h5 => I.apart i j x s a (pad_some h1) (pad_some h2) h3 (pad_some h4) (pad_some h5), I.tabs, I.zin⟩
  obtain ⟨v, h1, h2⟩ := I.at_ i s (pad_some h)
  exact ⟨v, pad_to h1, h2⟩
theorem own_pad {n m : Nat} {l : Addr} : Own (σ ++ List.replicate n none) (ρ ++ List.replicate m none) l ↔ Own σ ρ l :=
  ⟨fun ⟨i, x, h1, h2⟩ => ⟨i, x, pad_some h1, pad_some h2⟩, fun ⟨i, x, h1, h2⟩ => ⟨i, x, pad_to h1, pad_to h2⟩⟩
/-- a def's promise, from its body's reading -/
theorem entry {d : PL.Def} {body : PL.Ev PL.Fl} {N : List Str} {vs : List V} {Q : VK} (hns : N.length = d.ns) (hio : ∀ k : Nat, d.io[k]? = some true → k ∈ G.IO) (h : spF G (PL.bodyR d body) vs H Q E) :
    tS G E body { nx := fun _ H' => Q .non H', rt := Q } (L2.start N vs) H := by
  obtain ⟨Z, ss, nol, I, h⟩ := h
  by_cases hok : PL.okArgs d.io ss = true
  · have hl : vs.length = ss.length := by have := I.len; rwa [List.length_map, List.length_map] at this
    unfold PL.bodyR at h
    rw [if_pos hok] at h
    have epad : N.length - vs.length = d.ns - ss.length := by rw [hns, hl]
    refine ⟨Z, ss.map some ++ List.replicate (d.ns - ss.length) none, I.pad epad, ?_⟩
    cases hb : body (ss.map some ++ List.replicate (d.ns - ss.length) none) with
    | stuck => rw [hb] at h; exact h.elim
    | exc c ps =>
      rw [hb] at h
      exact fun x H' e => h x H' ⟨fun a o ha n t => e.keep a o ha (fun z => n (own_pad.mp z)) t, e.live, e.tabs, e.pay⟩
    | ok q =>
      obtain ⟨fl, ρ'⟩ := q
      rw [hb] at h
      change match (PL.ofO (PL.outs d.io ρ')).bind (fun os => match fl with
        | .nx => PL.Res.ok (PL.RV.v .non, os)
        | .rt r => PL.Res.ok (r, os)) with
        | .ok (rv, os) => _
        | .exc c ps => _
        | .stuck => _ at h
      cases ho : PL.outs d.io ρ' with
      | none => rw [ho] at h; exact h.elim
      | some os =>
        rw [ho] at h
        obtain ⟨ρ1, el, hk⟩ := lend_outs hok ho
        -- the arguments behind the body
        have back : ∀ {H' : Hp} {Z' : Addr → Prop} {σ' : St}, Step G H Z (L2.start N vs) (ss.map some ++ List.replicate (d.ns - ss.length) none) H' Z' σ' ρ' →
            REnv G H' Z' (vs.map some) ρ1 ∧ HStep H Z (Own (vs.map some) (ss.map some)) H' Z' (Own (vs.map some) ρ1) ∧ (∀ l, Own (vs.map some) ρ1 l → Own σ' ρ' l) ∧ (∀ l, Own (vs.map some) (ss.map some) l → Own σ' ρ' l) := fun {H' Z' σ'} st => by
          have at_v : ∀ (k : Nat) (v : V), d.io[k]? = some true → (vs.map some)[k]? = some (some v) → σ'[k]? = some (some v) := fun k v hio' hv => by
            rw [st.fix k (hio k hio')]
            exact pad_to hv
          have v_at : ∀ (k : Nat) (t : PL.SV), ρ1[k]? = some (some t) → ∃ v, (vs.map some)[k]? = some (some v) := fun k t ht => by
            have hkl : k < ss.length := by rw [← (lend_at el).1]; exact (List.getElem?_eq_some_iff.mp ht).1
            exact ⟨vs[k]'(by omega), by rw [List.getElem?_map, List.getElem?_eq_getElem (by omega)]; rfl⟩
          have xt : Ext H Z H' Z' := HStep.ext (I.pad epad) st.h
          have own1 : ∀ l, Own (vs.map some) ρ1 l → Own σ' ρ' l := fun l ⟨k, x, h1, h2⟩ => by
            rcases hk k _ h1 with ⟨d', e, _⟩ | ⟨x', y', e, e2, e3, e4⟩
            · cases e
            · exact ⟨k, x', e3, at_v k _ e4 h2⟩
          have own0 : ∀ l, Own (vs.map some) (ss.map some) l → Own σ' ρ' l := fun l ⟨k, x, h1, h2⟩ => by
            obtain ⟨y, hy⟩ := (lend_at el).2 k x (map_at h1)
            exact own1 l ⟨k, y, hy, h2⟩
          refine ⟨⟨?_, fun k t ht => ?_, fun i j x t a h1 h2 h3 h4 h5 => ?_, st.env.tabs, st.env.zin⟩, ?_, own1, own0⟩
          · rw [List.length_map, (lend_at el).1]; exact hl
          · obtain ⟨v, hv⟩ := v_at k t ht
            refine ⟨v, hv, ?_⟩
            rcases hk k t ht with ⟨d', rfl, e2⟩ | ⟨x', y', rfl, e2, e3, e4⟩
            · obtain ⟨u, g1, g2⟩ := I.at_ k _ (map_to e2)
              rw [hv] at g1
              cases g1
              exact Rep.ext xt d' v g2
            · obtain ⟨u, g1, g2⟩ := st.env.at_ k _ e3
              rw [at_v k v e4 hv] at g1
              cases g1
              exact g2
          · rcases hk i _ h1 with ⟨d', e, _⟩ | ⟨x', y', e, e2, e3, e4⟩
            · cases e
            · rcases hk j _ h2 with ⟨d', e', _⟩ | ⟨x2, y2, e', f2, f3, f4⟩
              · exact absurd e' (h3 d')
              · exact st.env.apart i j x' _ a e3 f3 (fun d q => by cases q) (at_v i _ e4 h4) (at_v j _ f4 h5)
          · exact (st.h.more (O'' := Own (vs.map some) (ss.map some)) fun a z => own_pad.mp z).less own1
        cases fl with
        | nx =>
          intro H' Z' σ' st
          obtain ⟨b1, b2, b3, b4⟩ := back st
          exact h .non H' Z' ρ1 el b2 b1 (r_non (G := G) (H := H') (Z := Z'))
        | rt rv =>
          intro v H' Z' σ' st rr
          obtain ⟨b1, b2, b3, b4⟩ := back st
          refine h v H' Z' ρ1 el b2 b1 ?_
          cases rv with
          | v d => exact rr
          | f x =>
            obtain ⟨l, rfl, nn, nz, no, ro⟩ := rr
            refine ⟨l, rfl, nn.elim id fun z => (no (b4 l (own_pad.mp z))).elim, nz, fun z => no (b3 l z), ro⟩
  · unfold PL.bodyR at h
    rw [if_neg hok] at h
    exact h.elim
end
end PLS
end

section
set_option Elab.async false
set_option linter.all false
set_option maxRecDepth 100000
set_option maxHeartbeats 4000000
/-! the soundness of P-lang: heads of expressions; calls and the rest of the expressions -/
namespace PLS
open PySem PySem.Spec PyProof.Rows L2 PySem.W
def noStar : Expr → Bool
  | .Starred .. => false
  | _ => true
def noSlice : Expr → Bool
  | .Slice .. => false
  | _ => true
def noSet : Expr → Bool
  | .Set .. => false
  | _ => true
def noComp : Expr → Bool
  | .ListComp .. => false
  | .SetComp .. => false
  | .DictComp .. => false
  | _ => true
theorem star_of {a : Expr} {es : List Expr} {env : Env} (h : noStar a = true) : starEach (a :: es) env = (false, eval a env) :: starEach es env := by
  cases a <;> first | rfl | cases h
theorem slice_of {a : Expr} (h : noSlice a = true) : PlainIx a := fun o i => by
  cases a <;> first | rfl | cases h
theorem set_of {a : Expr} {env : Env} (h : noSet a = true) : ∀ x, foldedSetIterable a env x = pure x := fun x => by
  cases a <;> first | rfl | cases h
theorem marks_of {a : Expr} {op : CmpOp} (h : noSet a = true) : behindInMarks op a = false := by
  cases a <;> first | rfl | cases h
theorem swaps_of {a : Expr} {t : Option Expr} {n : Nat} {env : Env} (h : noComp a = true) : swapsWith a t n env = pure false := by
  cases a <;> first | rfl | cases h
def plainT : Expr → Bool
  | .Name .. => true
  | .Constant .. => true
  | .Call .. => true
  | .Subscript .. => true
  | .BinOp .. => true
  | .Tuple .. => true
  | .List .. => true
  | .ListComp .. => true
  | .IfExp .. => false
  | _ => false
theorem true_of {a : Expr} {env : Env} (h : plainT a = true) : ∀ whole, isTrue a env whole = (do let v ← whole; standAt a.pos; holding [v] (truthy v)) := fun whole => by
  cases a <;> first | rfl | cases h
section
variable {G : GS} {E : XK} {X : Cx} {W : WX} {σ σ' σ1 : St} {H H' H1 H₀ : Hp} {Z Z' Z1 : Addr → Prop} {ρ ρ' ρ1 : PL.Env} {pos pos2 p p2 : Pos} {a b c : Expr} {ra rb rc : PL.Ev PL.AV}
theorem plain_rest : ∀ {es : List Expr} {pos : Pos} {env : Env}, es.all noStar = true → (backTo pos (starEach es env)).any (·.1) = false
  | [], _, _, _ => rfl
  | e :: es, pos, env, h => by
    rw [List.all_cons, Bool.and_eq_true] at h
    rw [star_of h.1]
    show (backTo pos ((false, eval e env) :: starEach es env)).any (·.1) = false
    have ih := plain_rest (pos := pos) (env := env) h.2
    unfold backTo at ih ⊢
    simp only [List.map_cons, List.any_cons, Bool.false_or]
    exact ih
theorem se_call {G' : GS} (hre : G.re G') {f : String} {k : Nat} {fa : Addr} {fd : FuncData} {ps : List Str} {cl : PL.Ctx} {bs : List Bool} {x : Str} {ras : PL.Ev (List PL.AV)} {es : List Expr}
    (F : FnOk X.prog X.w X.K X.mg X.base (L2.CX X.prog X.w) k fa fd ps (spF G' (cl.call f))) (hr : Room k X.A) (hgl : Gl X x) (hm : X.mg x = some (.ref fa)) (hk : PySem.W.keepIn X.K (.ref fa) = true) (hb : Binds X.K fd ps []) (hx : Passes (L2.CX X.prog X.w) X E)
    (ha : PA X (a :: es) (tAs G (wx E) ras)) (hdb : (x == ("__debug__" : Str)) = false) (h1 : noStar a = true) (h2 : es.all noStar = true) : PE X (.Call (.Name x p) (a :: es) [] pos) (tE G (wx E) (PL.evCall cl f bs ras)) :=
  (pe_call (E := E) F hr hgl hm hk hb .nil hx ha hdb (star_of h1) (plain_rest h2)).imq fun σ H Q h => by
    obtain ⟨Z, ρ, I, o⟩ := h
    refine ⟨Z, ρ, I, o.bind.mono fun as ρ1 o1 vs H1 Z1 s1 r1 => ?_⟩
    show spF G' (cl.call f) (vs ++ []) H1 Q E
    rw [List.append_nil]
    exact call_core hre s1 r1 o1
/-- ranges as lists, as tuples -/
theorem se_lrange (hc : X.calm = true) (hgl : Gl X "list") (hm : X.mg "list" = none) (hgl2 : Gl X "range") (hm2 : X.mg "range" = none) (ha : PE X a (tE G W ra)) (h1 : noStar a = true) :
    PE X (.Call (.Name "list" p) [.Call (.Name "range" p2) [a] [] pos2] [] pos) (tE G W (PL.ev1 ra PL.lrangeD)) :=
  (pe_listRg hc hgl hm (prg_1 hgl2 hm2 ha (star_of h1)) (star_of rfl)).imq fun σ H Q h => by
    obtain ⟨Z, ρ, I, o⟩ := ev1_r h
    refine ⟨Z, ρ, I, o.mono fun av ρ1 o1 v H1 Z1 s1 r1 => ?_⟩
    obtain ⟨Z2, d, z, zin, hx, ez, q⟩ := o1 v H1 Z1 s1 r1
    cases d <;> (first | (cases ez; done) | skip)
    rename_i n
    cases vw_int hx
    obtain ⟨hr, rfl⟩ := if_some ez
    unfold PL.rngOk at hr
    rw [Bool.and_eq_true, decide_eq_true_eq, decide_eq_true_eq] at hr
    refine ⟨n, rfl, ⟨by omega, by omega, by omega, by omega, by omega⟩, fun p n => q _ _ (upd_grow n) (res_lst n ?_ ?_)⟩
    · rw [rgV_length, sizeLine_eq]; omega
    · have := rangeL_rep (G := G) (H := H1) (Z := Z2) (n := ‹Int›)
      unfold rgV
      rw [Int.sub_zero]
      exact this
theorem se_trange (hc : X.calm = true) (hgl : Gl X "tuple") (hm : X.mg "tuple" = none) (hgl2 : Gl X "range") (hm2 : X.mg "range" = none) (ha : PE X a (tE G W ra)) (h1 : noStar a = true) :
    PE X (.Call (.Name "tuple" p) [.Call (.Name "range" p2) [a] [] pos2] [] pos) (tE G W (PL.ev1 ra PL.trangeD)) :=
  (pe_tupRgF hc hgl hm (prg_1 hgl2 hm2 ha (star_of h1)) (star_of rfl)).imq fun σ H Q h => by
    obtain ⟨Z, ρ, I, o⟩ := ev1_r h
    refine ⟨Z, ρ, I, o.mono fun av ρ1 o1 v H1 Z1 s1 r1 => ?_⟩
    obtain ⟨Z2, d, z, zin, hx, ez, q⟩ := o1 v H1 Z1 s1 r1
    cases d <;> (first | (cases ez; done) | skip)
    rename_i n
    cases vw_int hx
    obtain ⟨hr, rfl⟩ := if_some ez
    unfold PL.rngOk at hr
    rw [Bool.and_eq_true, decide_eq_true_eq, decide_eq_true_eq] at hr
    refine ⟨n, rfl, ⟨by omega, by omega, by omega, by omega, by omega⟩, res_tup ?_ ?_ q⟩
    · rw [rgV_length, sizeLine_eq]; omega
    · have := rangeL_rep (G := G) (H := H1) (Z := Z2) (n := n)
      unfold rgV
      rw [Int.sub_zero]
      exact this
/-- isinstance -/
theorem se_isi (hg : GX G X) {k : PL.Kind} {n : String} {b : Expr} (hn : kindN k = some n) (hgl : Gl X "isinstance") (hm : X.mg "isinstance" = none) (hb : PE X b (tC (.ty n))) (ha : PE X a (tE G W ra)) (h1 : noStar a = true) (h2 : noStar b = true) :
    PE X (.Call (.Name "isinstance" p) [a, b] [] pos) (tE G W (PL.ev1 ra (PL.isiD k))) :=
  (pe_callB (oc_isi hg hn) hgl hm (by rfl) (pa_cons ha (pa_cons hb pa_nil (star_of h2)) (star_of h1)) (by decide) (by decide) (star_of h1) (by rw [star_of h2]; rfl)).imq fun σ H Q h => by
    obtain ⟨Z, ρ, I, o⟩ := ev1_r h
    exact ⟨Z, ρ, I, o.mono fun av ρ' o1 v H' Z' s r => ⟨v, rfl, o1 v H' Z' s r⟩⟩
/-- slices -/
def tO (G : GS) (W : WX) (r : PL.Ev (Option Int)) : TO := fun σ H Q => ∃ Z ρ, REnv G H Z σ ρ ∧ Outc G W H σ ρ (r ρ) fun i ρ' => ∀ H' Z', Step G H Z σ ρ H' Z' σ ρ' → Q i H'
theorem PO.imq {e : Option Expr} {t t' : TO} (h : PO X e t) (i : ∀ σ H Q, t' σ H Q → t σ H Q) : PO X e t' := ⟨fun pins s σ H Q I q => h.run pins s σ H Q I (i σ H Q q)⟩
theorem so_none : PO X none (tO G W (PL.evK none)) := PO.imq po_none fun σ H Q h => by
  obtain ⟨Z, ρ, I, o⟩ := h
  exact o H Z (Step.refl I)
theorem so_some (ha : PE X a (tE G W ra)) : PO X (some a) (tO G W fun ρ => (PL.evI ra ρ).bind fun (i, ρ1) => .ok (some i, ρ1)) := PO.imq (po_some ha) fun σ H Q h => by
  obtain ⟨Z, ρ, I, o⟩ := h
  refine ⟨Z, ρ, I, (evI_ok o).mono fun av ρ1 ⟨i, e, o1⟩ v H1 Z1 s1 r1 => ?_⟩
  subst e
  have r1 : G.R H1 Z1 (.int i) v := r1
  simp only [GS.R, Rep] at r1
  exact ⟨i, r1, o1 H1 Z1 s1⟩
theorem sl_any (hg : GX G X) : SlR X (fun x lo hi H Q => r1D G (fun d => PL.sliceD d lo hi) x H Q) := SlR.pick fun x lo hi H Q h => os_slice hg h
theorem se_slice (hg : GX G X) {lo hi : Option Expr} {rl rh : PL.Ev (Option Int)} (ha : PE X a (tE G W ra)) (hl : PO X lo (tO G W rl)) (hh : PO X hi (tO G W rh)) : PE X (.Subscript a (.Slice lo hi none p2) pos) (tE G W fun ρ => (ra ρ).bind fun (x, ρ1) => (rl ρ1).bind fun (l, ρ2) => (rh ρ2).bind fun (h, ρ3) =>
    (PL.ofO (PL.look ρ3 x)).bind fun dx => (PL.ofO (PL.sliceD dx l h)).bind fun z => .ok (z, ρ3)) := (pe_slice (sl_any hg) ha hl hh).imq fun σ H Q h => by
  obtain ⟨Z, ρ, I, o⟩ := h
  refine ⟨Z, ρ, I, o.bind.mono fun av ρ1 o1 v H1 Z1 s1 r1 => ?_⟩
  refine ⟨Z1, ρ1, s1.env, (Outc.bind (x := rl ρ1) o1).at s1 |>.mono fun l ρ2 o2 H2 Z2 s2 => ?_⟩
  have s12 := s1.trans s2
  refine ⟨Z2, ρ2, s2.env, (Outc.bind (x := rh ρ2) o2).at s12 |>.mono fun u ρ3 o3 H3 Z3 s3 => ?_⟩
  have s13 := s12.trans s3
  obtain ⟨dx, ex, o4⟩ := o3.ofO
  obtain ⟨z, ez, o5⟩ := o4.ofO
  exact ⟨Z3, dx, z, s3.env.zin, look_view s3.env (r1.step s1.env (s2.trans s3)) ex, ez, fun v' H' g r => o5 v' H' Z3 (s13.trans (s3.env.grow g)) (ResA.repA s13 r)⟩
theorem lst_shape {rs : PL.Ev (List PL.D)} {ok : PL.AV → PL.Env → Prop} (o : Outc G W H σ ρ ((rs ρ').bind fun (ds, ρ1) => if ds.length ≤ PL.lineN then .ok (PL.AV.f (.l ds), ρ1) else .stuck) ok) :
    Outc G W H σ ρ ((rs ρ').bind fun (ds, ρ1) => if ds.length ≤ PL.lineN then .ok (PL.AV.f (.l ds), ρ1) else .stuck) fun av ρ1 => (∃ ds, av = .f (.l ds)) ∧ ok av ρ1 := by
  refine Outc.join (o.bind.mono fun ds ρ1 o1 => ?_)
  dsimp only at o1 ⊢
  split at o1
  · rename_i h
    rw [if_pos h]
    exact ⟨⟨ds, rfl⟩, o1⟩
  · exact o1.elim
/-- [..] * k, of a fresh list -/
theorem se_lrep {es : List Expr} {rs : PL.Ev (List PL.D)} {kx : Expr} (h : PA X es (tDs G W rs)) (hk : PE X kx (tE G W rb)) : PE X (.BinOp (.List es p) .Mult kx pos) (tE G W (PL.ev2 (fun ρ => (rs ρ).bind fun (ds, ρ1) => if ds.length ≤ PL.lineN then .ok (.f (.l ds), ρ1) else .stuck) rb PL.lrepD)) :=
  (pe_op op_rep (se_lst h) hk).imq fun σ H Q h => by
    obtain ⟨Z, ρ, I, o⟩ := h
    refine ⟨Z, ρ, I, (lst_shape o.bind).mono fun av ρ1 ⟨⟨ds, eav⟩, o1⟩ v H1 Z1 s1 r1 => ?_⟩
    subst eav
    refine ⟨Z1, ρ1, s1.env, (o1.bind.at s1).mono fun bv ρ2 o2 u H2 Z2 s2 r2 => ?_⟩
    obtain ⟨dx, ex, o3⟩ := o2.ofO
    obtain ⟨dy, ey, o4⟩ := o3.ofO
    obtain ⟨z, ez, o5⟩ := o4.ofO
    cases ex
    have vy := look_view s2.env r2 ey
    cases dy <;> (first | (cases ez; done) | skip)
    rename_i k
    cases vw_int vy
    obtain ⟨hk, rfl⟩ := if_some ez
    obtain ⟨l, rfl, n, nz, no, vs, hl, few, rl⟩ := r1.step s1.env s2
    have e := rl.length
    refine ⟨l, k, vs, rfl, rfl, hl, by omega, by omega, by rw [← e, ← line_eq]; exact hk.2.2, fun q nq => o5 _ _ Z2 ((s1.trans s2).trans (s2.env.grow (upd_grow nq))) (ResA.repA (s1.trans s2) (res_lst nq ?_ (rl.rep _)))⟩
    rw [List.length_flatten, List.map_replicate, List.sum_replicate_nat, ← e, ← line_eq, Nat.mul_comm]
    exact hk.2.2
end
end PLS
end

section
set_option Elab.async false
set_option linter.all false
set_option maxRecDepth 100000
set_option maxHeartbeats 4000000
/-! the soundness of P-lang: several stores at once -/
namespace PLS
open PySem PySem.Spec PyProof.Rows L2 PySem.W
section
variable {G : GS} {E : XK} {X : Cx} {W : WX} {σ σ' σ1 : St} {H H' H1 H₀ : Hp} {Z Z' Z1 : Addr → Prop} {ρ ρ' ρ1 : PL.Env} {pos p p2 : Pos} {a b c : Expr} {ra rb rc : PL.Ev PL.AV}
/-- from the right -/
def setR : List Nat → List V → St → St
  | i :: is, v :: vs, σ => (setR is vs σ).set i (some v)
  | _, _, σ => σ
theorem par_env (s : Step G H Z σ ρ H1 Z1 σ ρ1) : ∀ {is : List (Nat × Bool)} {as : List PL.AV} {vs : List V} {ρ2 : PL.Env}, (∀ i ∈ is, i.1 ∉ G.IO) → RepAs G H H1 Z1 σ ρ1 as vs → PL.parGo is as ρ1 = some ρ2 →
    Step G H Z σ ρ H1 Z1 (setR (is.map (·.1)) vs σ) ρ2 ∧ is.length = vs.length ∧ ∀ l, Own (setR (is.map (·.1)) vs σ) ρ2 l → Own σ ρ1 l ∨ ∃ (k : Nat) (y : PL.OV), as[k]? = some (PL.AV.f y) ∧ vs[k]? = some (V.ref l)
  | [], [], vs, ρ2, hio, r, e => by
    cases e
    cases r
    exact ⟨s, rfl, fun l z => .inl z⟩
  | [], av :: as, vs, ρ2, hio, r, e => by cases e
  | (i, o) :: is, [], vs, ρ2, hio, r, e => by cases e
  | (i, o) :: is, av :: as, vs, ρ2, hio, r, e => by
    obtain ⟨v, r', rfl, g1, g2, g3⟩ := r
    unfold PL.parGo at e
    cases q : PL.parGo is as ρ1 with
    | none => rw [q] at e; cases e
    | some ρ' =>
      rw [q] at e
      dsimp only at e
      obtain ⟨st, el, ow⟩ := par_env s (fun j hj => hio j (List.mem_cons_of_mem _ hj)) g2 q
      have ni : i ∉ G.IO := hio (i, o) List.mem_cons_self
      split at e
      · rename_i hi
        cases o with
        | true =>
          rw [if_pos rfl] at e
          cases av with
          | f y =>
            cases e
            obtain ⟨l, rfl, n, nz, no, ro⟩ := g1
            have no' : ¬ Own (setR (is.map (·.1)) r' σ) ρ' l := fun z => by
              rcases ow l z with z | ⟨k, y', h1, h2⟩
              · exact no z
              · exact g3 y rfl k y' h1 h2
            refine ⟨st.fresh ni n nz no' ro, by rw [List.length_cons, List.length_cons, el], fun b z => ?_⟩
            rcases Own.setW z with z | rfl
            · exact (ow b z).imp id fun ⟨k, y', h1, h2⟩ => ⟨k + 1, y', by simpa using h1, by simpa using h2⟩
            · exact .inr ⟨0, y, rfl, rfl⟩
          | _ => cases e
        | false =>
          rw [if_neg Bool.false_ne_true] at e
          cases av with
          | v d =>
            cases e
            refine ⟨st.data ni g1, by rw [List.length_cons, List.length_cons, el], fun b z => ?_⟩
            exact (ow b (Own.unset z)).imp id fun ⟨k, y', h1, h2⟩ => ⟨k + 1, y', by simpa using h1, by simpa using h2⟩
          | _ => cases e
      · cases e
theorem setR_len : ∀ {is : List Nat} {vs : List V} {σ : St}, (setR is vs σ).length = σ.length
  | [], _, _ => by unfold setR; rfl
  | i :: is, [], _ => by unfold setR; rfl
  | i :: is, v :: vs, σ => by unfold setR; rw [List.length_set, setR_len]
theorem setR_set {i : Nat} {v : V} : ∀ {is : List Nat} {vs : List V} {σ : St}, i ∉ is → (setR is vs σ).set i (some v) = setR is vs (σ.set i (some v))
  | [], _, _, _ => by unfold setR; rfl
  | j :: is, [], _, _ => by unfold setR; rfl
  | j :: is, u :: vs, σ, h => by
    unfold setR
    rw [List.set_comm _ _ (fun e => h (by rw [← e]; exact List.mem_cons_self)), setR_set fun z => h (List.mem_cons_of_mem _ z)]
theorem setV_setR : ∀ {is : List Nat} {vs : List V} {σ : St}, is.Nodup → setV is vs σ = setR is vs σ
  | [], _, _, _ => by unfold setV setR; rfl
  | i :: is, [], _, _ => by unfold setV setR; rfl
  | i :: is, v :: vs, σ, h => by
    obtain ⟨n, nd⟩ := List.nodup_cons.mp h
    unfold setV setR
    rw [setV_setR nd, setR_set n]
def parE (is : List (Nat × Bool)) (ras : PL.Ev (List PL.AV)) : PL.Ev PL.Fl := fun ρ => (ras ρ).bind fun (as, ρ1) => (PL.ofO (PL.parGo is as ρ1)).bind fun ρ2 => .ok (.nx, ρ2)
theorem par_r {is : List (Nat × Bool)} {ras : PL.Ev (List PL.AV)} {D : Ends} (hio : ∀ i ∈ is, i.1 ∉ G.IO) (h : tS G E (parE is ras) D σ H) : tAs G (wx E) ras σ H fun vs H1 => is.length = vs.length ∧ ∀ H2, (∀ a o, H1 a = some o → H2 a = some o) → D.nx (setR (is.map (·.1)) vs σ) H2 := by
  obtain ⟨Z, ρ, I, o⟩ := h
  refine ⟨Z, ρ, I, o.bind.mono fun as ρ1 o1 vs H1 Z1 s1 r1 => ?_⟩
  obtain ⟨ρ2, e2, o2⟩ := o1.ofO
  obtain ⟨st, el, _⟩ := par_env s1 hio r1 e2
  exact ⟨el, fun H2 g => o2 H2 Z1 _ (st.trans (st.env.grow g))⟩
theorem s_par2 {i j : Nat} {oi oj : Bool} {x y : Str} {ras : PL.Ev (List PL.AV)} {px py pt : Pos} {kt k2 pt2} (hc : X.calm = true) (hN : X.N.Nodup) (hi : X.N[i]? = some x) (hj : X.N[j]? = some y) (hij : i ≠ j) (hio : i ∉ G.IO) (hjo : j ∉ G.IO)
    (hx : X.env.scope.names.lookup x = some .local) (hy : X.env.scope.names.lookup y = some .local) (ha : PA X [a, b] (tAs G (wx E) ras))
    (hw : swappedStores [.Tuple [.Name x px, .Name y py] kt pt] (.Tuple [a, b] k2 pt2) X.env = pure (some [x, y]))
    (hs : swapsWithSole [.Tuple [.Name x px, .Name y py] kt pt] (.Tuple [a, b] k2 pt2) pos.line X.env = pure false) :
    PS X (.Assign [.Tuple [.Name x px, .Name y py] kt pt] (.Tuple [a, b] k2 pt2) pos) (tS G E (parE [(i, oi), (j, oj)] ras)) := (ps_par hc hN hi hj hij hx hy ha hw hs).imq fun D σ H h => by
  obtain ⟨Z, ρ, I, o⟩ := par_r (fun q hq => by simp at hq; rcases hq with rfl | rfl; · exact hio
                                               · exact hjo) h
  refine ⟨Z, ρ, I, o.mono fun as ρ1 o1 vs H1 Z1 s1 r1 => ?_⟩
  obtain ⟨el, k⟩ := o1 vs H1 Z1 s1 r1
  match vs, el with
  | [v, w], _ =>
    refine ⟨v, w, rfl, ?_⟩
    have := k H1 fun _ _ h => h
    rw [List.set_comm _ _ hij]
    exact this
theorem s_par3 {i j l : Nat} {oi oj ol : Bool} {x y z : Str} {ras : PL.Ev (List PL.AV)} {px py pz pt : Pos} {kt k2 pt2} (hc : X.calm = true) (hN : X.N.Nodup) (hi : X.N[i]? = some x) (hj : X.N[j]? = some y) (hl : X.N[l]? = some z) (hij : i ≠ j) (hil : i ≠ l) (hjl : j ≠ l) (hio : i ∉ G.IO) (hjo : j ∉ G.IO) (hlo : l ∉ G.IO)
    (hx : X.env.scope.names.lookup x = some .local) (hy : X.env.scope.names.lookup y = some .local) (hz : X.env.scope.names.lookup z = some .local) (ha : PA X [a, b, c] (tAs G (wx E) ras))
    (hw : swappedStores [.Tuple [.Name x px, .Name y py, .Name z pz] kt pt] (.Tuple [a, b, c] k2 pt2) X.env = pure (some [x, y, z]))
    (hs : swapsWithSole [.Tuple [.Name x px, .Name y py, .Name z pz] kt pt] (.Tuple [a, b, c] k2 pt2) pos.line X.env = pure false) :
    PS X (.Assign [.Tuple [.Name x px, .Name y py, .Name z pz] kt pt] (.Tuple [a, b, c] k2 pt2) pos) (tS G E (parE [(i, oi), (j, oj), (l, ol)] ras)) := (ps_par3 hc hN hi hj hl hij hil hjl hx hy hz ha hw hs).imq fun D σ H h => by
  obtain ⟨Z, ρ, I, o⟩ := par_r (fun q hq => by simp at hq; rcases hq with rfl | rfl | rfl; · exact hio
                                               · exact hjo
                                               · exact hlo) h
  refine ⟨Z, ρ, I, o.mono fun as ρ1 o1 vs H1 Z1 s1 r1 => ?_⟩
  obtain ⟨el, k⟩ := o1 vs H1 Z1 s1 r1
  match vs, el with
  | [u, v, w], _ =>
    refine ⟨u, v, w, rfl, ?_⟩
    have k := k H1 fun _ _ h => h
    have e : ((σ.set i (some u)).set j (some v)).set l (some w) = ((σ.set l (some w)).set j (some v)).set i (some u) := by
      rw [List.set_comm _ _ hij, List.set_comm _ _ hil, List.set_comm _ _ hjl]
    rw [e]
    exact k
/-- by a tuple -/
theorem s_parT {is : List (Nat × Bool)} {ts es : List Expr} {ras : PL.Ev (List PL.AV)} {kt k2 : Nat} {pt pt2 : Pos} (hc : X.calm = true) (hnd : (is.map (·.1)).Nodup) (hio : ∀ i ∈ is, i.1 ∉ G.IO) (hfew : is.length ≤ 1000) (ha : PA X es (tAs G (wx E) ras)) (ht : PGs X ts (gNames (is.map (·.1))))
    (hn : (assignEach ts X.env).length = is.length) (hst : (assignEach ts X.env).findIdx? (·.1) = none)
    (hw : swappedStores [.Tuple ts kt pt] (.Tuple es k2 pt2) X.env = pure none) (hs : swapsWithSole [.Tuple ts kt pt] (.Tuple es k2 pt2) pos.line X.env = pure false) (h1 : (assignEach [.Tuple ts kt pt] X.env).map (·.2) = [assign (.Tuple ts kt pt) X.env]) :
    PS X (.Assign [.Tuple ts kt pt] (.Tuple es k2 pt2) pos) (tS G E (parE is ras)) := (ps_asg (pe_tupF ha) (pg_tup hc ht hn hst) hs hw h1).imq fun D σ H h => by
  obtain ⟨Z, ρ, I, o⟩ := par_r hio h
  refine ⟨Z, ρ, I, o.mono fun as ρ1 o1 vs H1 Z1 s1 r1 => ?_⟩
  obtain ⟨el, k⟩ := o1 vs H1 Z1 s1 r1
  refine ⟨by rw [← el, sizeLine_eq]; omega, fun p o' n hd => ⟨p, vs, rfl, .inl (.inr ⟨o', upd_same⟩), el.symm, gNames_r (by rw [List.length_map]; exact el) ?_⟩⟩
  rw [setV_setR hnd]
  exact k _ (upd_grow n)
end
end PLS
end

section
set_option Elab.async false
set_option linter.all false
set_option maxRecDepth 100000
set_option maxHeartbeats 4500000
/-! a[i], b[j] = x, y -/
namespace PLS
open PySem PySem.Spec PyProof.Rows L2 PySem.W
section
variable {G : GS} {E : XK} {X : Cx} {σ σ' σ1 : St} {H H' H1 H₀ : Hp} {Z Z' Z1 : Addr → Prop} {ρ ρ' ρ1 : PL.Env} {pos p p2 : Pos} {D : Ends}
/-- one store into a list -/
theorem sub_r {ro ri : PL.Ev PL.AV} {d : PL.D} {v : V} {cont : PL.Env → PL.Res (PL.Fl × PL.Env)} {ok : PL.Fl → PL.Env → Prop} {Q : St → Hp → Prop} (s1 : Step G H Z σ ρ H1 Z1 σ ρ1) (r1 : G.R H1 Z1 d v)
    (o1 : Outc G (wx E) H σ ρ ((ro ρ1).bind fun (r, ρ3) => (PL.evD ri ρ3).bind fun (k, ρ5) => if PL.isL ρ5 r = true then (PL.ofO (PL.modO ρ5 r (PL.gSet k d))).bind fun (_, ρ6) => cont ρ6 else .stuck) ok)
    (hk : ∀ H' Z' ρ', Step G H Z σ ρ H' Z' σ ρ' → Ext H1 Z1 H' Z' → Outc G (wx E) H σ ρ (cont ρ') ok → Q σ H') : gSub (tE G (wx E) ro) (tD G (wx E) (PL.evD ri)) rSetL v σ H1 Q := by
  refine ⟨Z1, ρ1, s1.env, (Outc.bind (x := ro ρ1) o1).at s1 |>.mono fun av ρ2 o2 u H2 Z2 s2 r2 => ?_⟩
  have s12 := s1.trans s2
  refine ⟨Z2, ρ2, s2.env, (Outc.bind (x := PL.evD ri ρ2) o2).at s12 |>.mono fun k ρ3 o3 w H3 Z3 s3 r3 => ?_⟩
  have s13 := s12.trans s3
  obtain ⟨hl, o3⟩ := if_ok o3
  obtain ⟨⟨z, ρ4⟩, e4, o4⟩ := o3.ofO
  obtain ⟨l0, vs0, _, _⟩ := isL_at s3.env (r2.step s2.env s3) hl
  have hgL : ∀ x y z, (fun x => match x with | PL.OV.l xs => PL.gSet k d (.l xs) | _ => none) x = some (y, z) → ∃ xs ys, x = PL.OV.l xs ∧ y = PL.OV.l ys := fun x y z e => by
    cases x <;> (first | (cases e; done) | skip)
    obtain ⟨_, _, _, _, rfl⟩ := gL_set _ _ _ e
    exact ⟨_, _, rfl, rfl⟩
  have e4' : PL.modO ρ3 av (fun x => match x with | PL.OV.l xs => PL.gSet k d (.l xs) | _ => none) = some (z, ρ4) := by
    unfold PL.isL at hl
    unfold PL.modO at e4 ⊢
    split at hl
    · split at hl
      · rename_i i xs hs
        dsimp only at e4 ⊢
        rw [hs] at e4 ⊢
        exact e4
      · cases hl
    · cases hl
  obtain ⟨l, xs, ys, vs, ev, hv, few, rl, hg, kk⟩ := modL s13 (r2.step s2.env s3) hgL e4'
  obtain ⟨n, j, rfl, ej, ey⟩ := gL_set _ _ _ hg
  cases ey
  have r3 : G.R H3 Z3 (.int n) w := r3
  simp only [GS.R, Rep] at r3
  subst r3
  have x13 := (s2.trans s3).ext s1.env
  have lf : (vs.set j v).length ≤ sizeLine := by rw [List.length_set]; exact few
  obtain ⟨st, xt⟩ := kk (vs.set j v) lf (RepL.set (Rep.ext x13 _ _ r1) j rl)
  exact ⟨l, vs, n, j, ev, rfl, hv, by rw [ixN_eq, ← rl.length]; exact ej, hk _ Z3 _ st (x13.trans xt) o4⟩
theorem s_setT {ra : PL.Ev (List PL.D)} {ro ri rp rq : PL.Ev PL.AV} {o i o2 i2 a b : Expr} {t1 t2 pt pt2 : Pos} {kt k2 : Nat} (hc : X.calm = true) (ha : PA X [a, b] (tDs G (wx E) ra)) (ho : PE X o (tE G (wx E) ro)) (hi : PE X i (tE G (wx E) ri)) (ho2 : PE X o2 (tE G (wx E) rp)) (hi2 : PE X i2 (tE G (wx E) rq))
    (hn : ∀ lo hi' s q, i ≠ .Slice lo hi' s q) (hn2 : ∀ lo hi' s q, i2 ≠ .Slice lo hi' s q) (hw : swappedStores [.Tuple [.Subscript o i t1, .Subscript o2 i2 t2] kt pt] (.Tuple [a, b] k2 pt2) X.env = pure none) :
    PS X (.Assign [.Tuple [.Subscript o i t1, .Subscript o2 i2 t2] kt pt] (.Tuple [a, b] k2 pt2) pos) (tS G E fun ρ => (ra ρ).bind fun (ds, ρ1) => match ds with
    | [d, d'] => (ro ρ1).bind fun (r, ρ3) => (PL.evD ri ρ3).bind fun (k, ρ5) => if PL.isL ρ5 r = true then (PL.ofO (PL.modO ρ5 r (PL.gSet k d))).bind fun (_, ρ6) =>
      (rp ρ6).bind fun (r, ρ7) => (PL.evD rq ρ7).bind fun (k, ρ8) => if PL.isL ρ8 r = true then (PL.ofO (PL.modO ρ8 r (PL.gSet k d'))).bind fun (_, ρ9) => .ok (.nx, ρ9) else .stuck else .stuck
    | _ => .stuck) := (ps_asg (pe_tupF ha) (pg_tup (n := 2) hc (pgs_cons (pg_sub ho (se_d hi) set_list fun v => by cases i <;> first | rfl | exact (hn _ _ _ _ rfl).elim) (pgs_cons (pg_sub ho2 (se_d hi2) set_list fun v => by cases i2 <;> first | rfl | exact (hn2 _ _ _ _ rfl).elim) pgs_nil rfl) rfl) rfl rfl) rfl hw rfl).imq fun D σ H h => by
  obtain ⟨Z, ρ, I, oc⟩ := h
  refine ⟨Z, ρ, I, oc.bind.mono fun ds ρ1 o1 vs H1 Z1 s1 r1 => ?_⟩
  match ds, o1 with
  | [d, d'], o1 =>
    obtain ⟨v, vr, rfl, h1, h2⟩ : ∃ v vr, vs = v :: vr ∧ G.R H1 Z1 d v ∧ G.RL H1 Z1 [d'] vr := by simpa only [GS.RL, RepL] using r1
    obtain ⟨w, wr, rfl, h3, h4⟩ : ∃ w wr, vr = w :: wr ∧ G.R H1 Z1 d' w ∧ G.RL H1 Z1 [] wr := by simpa only [GS.RL, RepL] using h2
    obtain rfl : wr = [] := by simpa only [GS.RL, RepL] using h4
    refine ⟨(by show 2 ≤ sizeLine; rw [sizeLine_eq]; decide), fun p o' n hd => ⟨p, _, rfl, .inl (.inr ⟨o', upd_same⟩), rfl, v, _, rfl, ?_⟩⟩
    have g := s1.trans (s1.env.grow (upd_grow (o := .frz o' (.tup [v, w])) n))
    refine sub_r (cont := fun ρ6 => (rp ρ6).bind fun (r, ρ7) => (PL.evD rq ρ7).bind fun (k, ρ8) => if PL.isL ρ8 r = true then (PL.ofO (PL.modO ρ8 r (PL.gSet k d'))).bind fun (_, ρ9) => .ok (.nx, ρ9) else .stuck) (ok := okS G D H Z σ ρ) g (Rep.ext (ext_upd n) _ _ h1) o1 fun H2 Z2 ρ2 s2 x2 q2 => ⟨w, _, rfl, ?_⟩
    exact sub_r (cont := fun ρ9 => .ok (.nx, ρ9)) (ok := okS G D H Z σ ρ) s2 (Rep.ext ((ext_upd n).trans x2) _ _ h3) q2 fun H3 Z3 ρ3 s3 x3 q3 => ⟨rfl, q3 H3 Z3 σ s3⟩
end
end PLS
end

section
set_option Elab.async false
set_option linter.all false
set_option maxRecDepth 100000
set_option maxHeartbeats 4500000
/-! raise -/
namespace PLS
open PySem PySem.Spec PyProof.Rows L2 PySem.W
/-- what is known of an own exception class -/
structure ClsOk (X : Cx) (C : Addr) (x : Str) : Prop where
  facts : ∃ (B newId initId : String) (bmB : List Value), ExcBaseFacts B newId initId bmB ∧ PySem.W.excIn X.K C bmB newId = true
  glob : X.mg x = some (.ref C)
  keep : PySem.W.keepIn X.K (.ref C) = true
  up : Raises X (.ref C)
section
variable {G : GS} {E : XK} {X : Cx} {H H' H1 : Hp} {Z Z1 : Addr → Prop} {σ σ1 : St} {ρ ρ1 : PL.Env} {C : Addr} {x : Str} {p p2 pos : Pos}
theorem pmk_nul (o : ClsOk X C x) (hg : Gl X x) (hdb : (x == ("__debug__" : Str)) = false) : PMk X (.Call (.Name x p) [] [] pos) (fun _ H Q => Q (.ref C) none H) := fun pins s σ H Q I h => by
  obtain ⟨B, newId, initId, bmB, F, q⟩ := o.facts
  refine wpAny_Call_Name_kw (ld_glob I hg o.glob ?_ hdb)
  refine PySem.W.callWith_K0 I.kIn o.keep ?_
  obtain ⟨bm, N, nm, qn, bs, hdct, sn, sub, ab, col, dd, k0, k1, k2, k3, k5, mN, hC, hN, hni, T⟩ := exc_obj I.kIn q
  exact wpAny_call_exc_subT F T hC hN hni (fun h' e hm => mk_of I hm o.up h (I.hok.gone hm.new)) (Nat.zero_le _)
/-- the state of a raise -/
theorem exc_of {c : String} (s : Step G H Z σ ρ H1 Z1 σ ρ1) : Exc G c H σ ρ [] none H1 where
  keep := s.keep
  live := s.live
  tabs := s.env.tabs
  pay := .inl rfl
/-- raise X() -/
theorem s_raise0 {cl : String} (hc : X.calm = true) (tk : Takes X (wx E)) (o : ClsOk X (He.ga G.K (Str.ofString cl)) x) (hg : Gl X x) (hdb : (x == ("__debug__" : Str)) = false) :
    PS X (.Raise (some (.Call (.Name x p) [] [] pos)) none p2) (tS G E fun _ => .exc cl []) := (ps_raise hc tk (pmk_nul o hg hdb)).imq fun D σ H h => by
  obtain ⟨Z, ρ, I, q⟩ := h
  exact q none H (exc_of (Step.refl I))
end
end PLS
end

section
set_option Elab.async false
set_option linter.all false
set_option maxRecDepth 100000
set_option maxHeartbeats 4500000
/-! isinstance(x, (tuple, list)) -/
namespace PLS
open PySem PySem.Spec PyProof.Rows L2 PySem.W
section
variable {G : GS} {X : Cx} {W : WX} {σ : St} {H : Hp} {Z : Addr → Prop} {ρ : PL.Env} {p tp : Pos} {a b c : Expr} {ra : PL.Ev PL.AV} {kk : Nat}
theorem view_laid {T : Addr} {o : HO} (n : H T = none) {d : PL.D} {x : V} (h : G.Vw H Z d x) : G.Vw (upd H T o) Z d x := by
  cases d with
  | lst ds =>
    obtain ⟨a, vs, e, h1, h2, h3⟩ := h
    exact ⟨a, vs, e, h1.imp (fun r => r.imp (upd_grow n _ _) fun ⟨u, hu⟩ => ⟨u, upd_grow n _ _ hu⟩) id, h2, RepL.ext (ext_upd n) _ _ h3⟩
  | dct kvs =>
    obtain ⟨a, l, e, h1, h2, h3, h4⟩ := h
    exact ⟨a, l, e, upd_grow n _ _ h1, h2, h3, RepK.ext (ext_upd n) _ _ h4⟩
  | _ => exact Rep.ext (ext_upd n) _ _ h
theorem r1D.laid {k : PL.D → Option PL.AV} {x : V} {Q : VK} {T : Addr} {o : HO} (hk : ∀ d z, k d = some z → ∃ d', z = .v d') (n : H T = none) (h : r1D G k x H Q) : r1D G k x (upd H T o) Q := by
  obtain ⟨Z, d, z, zin, hx, ez, q⟩ := h
  obtain ⟨d', rfl⟩ := hk d z ez
  exact ⟨Z, d, _, fun a za => (zin a za).imp fun u hu => upd_grow n a u hu, view_laid n hx, ez, fun v H' g r => q v H' (fun a u hu => g a u (upd_grow n a u hu)) r⟩
theorem isi_v {k : PL.Kind} (d : PL.D) (z : PL.AV) (h : PL.isiD k d = some z) : ∃ d', z = .v d' := by
  unfold PL.isiD at h
  cases e : d.ty with
  | none => rw [e] at h; cases h
  | some t => rw [e] at h; cases h; exact ⟨_, rfl⟩
theorem se_isiT (hg : GX G X) (hgl : Gl X "isinstance") (hm : X.mg "isinstance" = none) (hb : PE X b (tC (.ty "tuple"))) (hc : PE X c (tC (.ty "list"))) (ha : PE X a (tE G W ra)) (h1 : noStar a = true) (h2 : noStar b = true) (h3 : noStar c = true) :
    PE X (.Call (.Name "isinstance" p) [a, .Tuple [b, c] kk tp] [] p2) (tE G W (PL.ev1 ra (PL.isiD .tuplist))) :=
  (pe_callB (oc_isiT hg) hgl hm (by rfl) (pa_cons ha (pa_cons (pe_tup (pa_cons hb (pa_cons hc pa_nil (star_of h3)) (star_of h2))) pa_nil rfl) (star_of h1)) (by decide) (by decide) (star_of h1) rfl).imq fun σ H Q h => by
    obtain ⟨Z, ρ, I, o⟩ := ev1_r h
    refine ⟨Z, ρ, I, o.mono fun av ρ' o1 v H' Z' s r => ⟨(by rw [sizeLine_eq]; decide), fun T n => ⟨v, T, rfl, upd_same, (o1 v H' Z' s r).laid isi_v n⟩⟩⟩
end
end PLS
end

section
set_option Elab.async false
set_option linter.all false
set_option maxRecDepth 100000
set_option maxHeartbeats 4500000
/-! a call of what a variable holds -/
namespace PLS
open PySem PySem.Spec PyProof.Rows L2 PySem.W
section
variable {G : GS} {E : XK} {X : Cx} {p p2 : Pos} {a : Expr} {es : List Expr}
theorem se_callv {cl : PL.Ctx} {n i : Nat} {x : Str} {ras : PL.Ev (List PL.AV)} (hg : GX G X)
    (hall : ∀ f bs, cl.io f = some bs → ∃ (k : Nat) (fd : FuncData) (ps : List Str) (G' : GS), G.re G' ∧ FnOk X.prog X.w X.K X.mg X.base (L2.CX X.prog X.w) k (He.ga X.K (Str.ofString f)) fd ps (spF G' (cl.call f)) ∧ Room k X.A ∧ PySem.W.keepIn X.K (.ref (He.ga X.K (Str.ofString f))) = true ∧ Binds X.K fd ps [])
    (hN : X.N[i]? = some x) (hv : Vis X.env.scope x) (hd : (x == ("__debug__" : Str)) = false) (hcd : (x == ("__classdict__" : Str)) = false) (hx : Passes (L2.CX X.prog X.w) X E) (ha : PA X (a :: es) (tAs G (wx E) ras)) (h1 : noStar a = true) (h2 : es.all noStar = true) :
    PE X (.Call (.Name x p) (a :: es) [] p2) (tE G (wx E) fun ρ => match PL.slot ρ i with
      | some (.d (.fn f)) => match cl.io f with
        | some bs => if bs = List.replicate n false then PL.evCall cl f (List.replicate n false) ras ρ else .stuck
        | none => .stuck
      | _ => .stuck) := ⟨fun pins s σ H Q I h => by
  obtain ⟨Z, ρ, J, o⟩ := h
  dsimp only at o
  split at o
  · rename_i f hs
    split at o
    · rename_i bs hb
      obtain ⟨hbs, o⟩ := if_ok o
      obtain ⟨k, fd, ps, G', hre, F, hr, hk, hbd⟩ := hall f bs hb
      obtain ⟨v, q1, q2⟩ := J.at_ i _ (slot_some.mp hs)
      have q2 : G.R H Z (.fn f) v := q2
      simp only [GS.R, Rep] at q2
      rw [q2, hg.k] at q1
      refine (ItX.pe_callV (F.raw hbd .nil) hr hk hx hN hv ha hd hcd (star_of h1) (plain_rest h2)).run pins s σ H Q I ⟨q1, Z, ρ, J, o.bind.mono fun as ρ1 o1 vs H1 Z1 s1 r1 => ?_⟩
      show spF G' (cl.call f) (vs ++ []) H1 Q E
      rw [List.append_nil]
      exact call_core hre s1 r1 o1
    · exact o.elim
  · exact o.elim⟩
end
end PLS
end

section
set_option Elab.async false
set_option linter.all false
set_option maxRecDepth 100000
set_option maxHeartbeats 4500000
/-! comprehensions with two loops -/
namespace PLS
open PySem PySem.Spec PyProof.Rows L2 PySem.W
section
variable {G : GS} {X : Cx} {W : WX} {σ σ' : St} {H H' H₀ H1 Hc : Hp} {Z Z' Z1 Zc O1 : Addr → Prop} {ρ ρ' ρ1 ρc : PL.Env} {pos p p2 : Pos} {a b c : Expr} {D : Addr}
theorem tgIx_eq (tg : PL.Tg) : PL.tgIx tg = tgs tg := by cases tg <;> rfl
theorem pwin {i : Nat} (hl : i < ρ.length) : ∀ {vs : List Nat}, i ∈ vs → (PL.wipe ρ vs)[i]? = some none
  | v :: vs, h => by
    unfold PL.wipe
    by_cases e : v = i
    · subst e
      rw [List.getElem?_set_self (by rw [pwipe_len]; exact hl)]
    · rw [List.getElem?_set_ne e, pwin hl ((List.mem_cons.mp h).resolve_left fun q => e q.symm)]
theorem wipe_wipe {is vs : List Nat} (h : ∀ i ∈ is, i ∈ vs) : L2.wipe (L2.wipe σ is) vs = L2.wipe σ vs :=
  wipe_eq (by rw [L2.wipe_length]) fun i hi => wout fun z => hi (h i z)
theorem pwipe_wipe {is vs : List Nat} (h : ∀ i ∈ is, i ∈ vs) : PL.wipe (PL.wipe ρ is) vs = PL.wipe ρ vs := by
  refine List.ext_getElem? fun i => ?_
  by_cases hi : i ∈ vs
  · by_cases hl : i < ρ.length
    · rw [pwin (by rw [pwipe_len]; exact hl) hi, pwin hl hi]
    · rw [List.getElem?_eq_none (by rw [pwipe_len, pwipe_len]; omega), List.getElem?_eq_none (by rw [pwipe_len]; omega)]
  · rw [pwipe_out hi, pwipe_out hi, pwipe_out fun z => hi (h i z)]
/-- a turn's state: what is gathered stands at D -/
structure LS (G : GS) (D : Addr) (H1 : Hp) (Z1 O1 : Addr → Prop) (σ : St) (os : List Nat) (Hc : Hp) (Zc : Addr → Prop) (ρc : PL.Env) (ds : List PL.D) (acc : List V) : Prop where
  env : REnv G Hc Zc (L2.wipe σ os) (PL.wipe ρc os)
  st : HStep H1 Z1 O1 Hc Zc (Own (L2.wipe σ os) (PL.wipe ρc os))
  at_ : Hc D = some (.lst acc)
  nz : ¬ Zc D
  no : ¬ Own (L2.wipe σ os) (PL.wipe ρc os) D
  rl : G.RL Hc Zc ds acc
/-- behind a store into the slots of os -/
theorem weq_of {os is : List Nat} {ws : List V} (htg : ∀ i ∈ is, i ∈ os) : L2.wipe (setV is ws (L2.wipe σ os)) os = L2.wipe σ os := by
  rw [wipe_eq (σ := L2.wipe σ os) (by rw [setV_len]) fun j hj => setV_get fun z => hj (htg j z)]
  exact wipe_wipe fun _ h => h
theorem turn1 {os : List Nat} {tg : PL.Tg} {rc : PL.Ev Bool} {re : PL.Ev PL.D} {W0 : WX} {x : PL.D} {y : Option PL.D} {v : V} {dsc : List PL.D} {acc : List V} {Nx : Hp → Prop} (htg : ∀ i ∈ tgs tg, i ∈ os)
    (S : LS G D H1 Z1 O1 σ os Hc Zc ρc dsc acc) (hv : G.R Hc Zc x v) (e : PL.compStep os tg rc re x ρc = .ok (y, ρ')) (few : ∀ d, y = some d → acc.length < sizeLine) (n1 : H1 D = none)
    (hNx : ∀ H' Z' acc', LS G D H1 Z1 O1 σ os H' Z' ρ' (dsc ++ y.toList) acc' → Ext Hc Zc H' Z' → Nx H') :
    gD G tg v (L2.wipe σ os) Hc fun σ2 H2 => L2.wipe σ2 os = L2.wipe σ os ∧ tB G W0 rc σ2 H2 fun b H3 => if b = true then tD G W0 re σ2 H3 fun y H4 => ∃ acc, H4 D = some (.lst acc) ∧ acc.length < sizeLine ∧ Nx (upd H4 D (.lst (acc ++ [y]))) else Nx H3 := by
  obtain ⟨ρ2, kk, ρ3, t1, t2, t3⟩ := comp_ok e
  refine ⟨Zc, PL.wipe ρc os, x, ρ2, S.env, hv, t1, fun ws E2 ow => ⟨weq_of htg, Zc, ρ2, E2, ?_⟩⟩
  rw [t2]
  intro H3 Z3 s3
  have weq := weq_of (σ := σ) (ws := ws) htg
  have noD2 : ¬ Own (setV (tgs tg) ws (L2.wipe σ os)) ρ2 D := fun z => S.no (ow D z)
  have hD3 := s3.keep D _ S.at_ noD2 (fun _ z => by cases z)
  have nz3 : ¬ Z3 D := fun z => by
    rcases s3.zn D z with q | q | q
    · exact S.nz q
    · rw [S.at_] at q; cases q
    · exact noD2 q
  have noD3 : ¬ Own (setV (tgs tg) ws (L2.wipe σ os)) ρ3 D := fun z => (s3.own D z).elim noD2 fun q => by rw [S.at_] at q; cases q
  have hst3 := S.st.trans (s3.h.more ow)
  rcases t3 with ⟨rfl, d, e3, rfl⟩ | ⟨rfl, rfl, rfl⟩
  · rw [if_pos rfl]
    refine ⟨Z3, ρ3, s3.env, ?_⟩
    rw [e3]
    intro yv H4 Z4 s4 r4
    have hD4 := s4.keep D _ hD3 noD3 (fun _ z => by cases z)
    have nz4 : ¬ Z4 D := fun z => by
      rcases s4.zn D z with q | q | q
      · exact nz3 q
      · rw [hD3] at q; cases q
      · exact noD3 q
    have noD4 : ¬ Own (setV (tgs tg) ws (L2.wipe σ os)) ρ' D := fun z => (s4.own D z).elim noD3 fun q => by rw [hD3] at q; cases q
    refine ⟨acc, hD4, few d rfl, hNx _ Z4 (acc ++ [yv]) ⟨?_, ?_, upd_same, nz4, ?_, ?_⟩ (((s3.trans s4).ext E2).trans (s4.env.updD hD4 nz4 noD4).2)⟩
    · rw [← weq]; exact ((s4.env.updD hD4 nz4 noD4).1).wipe os
    · rw [← weq]; exact ((hst3.trans s4.h).updD n1).less fun a z => z.wipe
    · rw [← weq]; exact fun z => noD4 z.wipe
    · exact RepL.ext (s4.env.updD hD4 nz4 noD4).2 _ _ (RepL.append (RepL.ext ((s3.trans s4).ext E2) _ _ S.rl) (RepL.one r4))
  · rw [if_neg Bool.false_ne_true]
    refine hNx H3 Z3 acc ⟨?_, ?_, hD3, nz3, ?_, ?_⟩ (s3.ext E2)
    · rw [← weq]; exact s3.env.wipe os
    · rw [← weq]; exact hst3.less fun a z => z.wipe
    · rw [← weq]; exact fun z => noD3 z.wipe
    · show G.RL H3 Z3 (dsc ++ []) acc
      rw [List.append_nil]
      exact RepL.ext (s3.ext E2) _ _ S.rl
theorem ext_of {Hb : Hp} {Zb : Addr → Prop} {σb : St} {ρb : PL.Env} (I1 : REnv G Hb Zb σb ρb) (hst : HStep Hb Zb (Own σb ρb) Hc Zc O1) : Ext Hb Zb Hc Zc := by
  refine ⟨hst.zz, fun a u h z t => hst.keep a u h (fun q => (I1.ownZ q).1 z) t, fun a us h => hst.keep a _ h (fun q => ?_) (fun _ z => by cases z), fun a u w h => hst.keep a _ h (fun q => ?_) (fun _ z => by cases z)⟩
  · obtain ⟨_, u, e, _, n, _⟩ := I1.ownZ q
    rw [h] at e; cases e; exact n us rfl
  · obtain ⟨_, u', e, _, _, n⟩ := I1.ownZ q
    rw [h] at e; cases e; exact n u w rfl
theorem comp2_r {os : List Nat} {tg tg1 : PL.Tg} {rs rs1 : PL.Ev (List PL.D)} {rc : PL.Ev Bool} {re : PL.Ev PL.D} {W0 : WX} {Q : VK} (htg : ∀ i ∈ tgs tg, i ∈ os) (htg1 : ∀ i ∈ tgs tg1, i ∈ os) (h : tE G W (PL.evComp2 os tg rs tg1 rs1 rc re) σ H Q) :
    tLc2 (iSrc G W rs) (gD G tg) tYes (iSrc G W0 rs1) (gD G tg1) (tB G W0 rc) (tD G W0 re) os (tgs tg1) σ H Q := by
  obtain ⟨Z, ρ, I, o⟩ := h
  refine ⟨Z, ρ, I, o.bind.mono fun xs ρ1 o1 vs H1 Z1 J st rl gv D hD => ?_⟩
  obtain ⟨hdat, o2⟩ := if_ok o1
  rw [List.all_eq_true] at hdat
  obtain ⟨⟨ds, ρe⟩, eg, k⟩ := noexc_ok o2
  obtain ⟨hfew, k⟩ := if_ok k
  have k : ∀ v H' Z', Step G H Z σ ρ H' Z' σ (PL.back ρ1 ρe os) → RepA G H H' Z' σ (PL.back ρ1 ρe os) (.f (.l ds)) v → Q v H' := k
  rw [tgIx_eq] at eg
  have I1 := st.env
  have hlen := rl.length
  have nz1 : ¬ Z1 D := fun z => by obtain ⟨u, e⟩ := I1.zin D z; rw [hD] at e; cases e
  have no1 : ¬ Own σ ρ1 D := fun z => by obtain ⟨_, u, e, _⟩ := I1.ownZ z; rw [hD] at e; cases e
  let stp : PL.D → PL.Env → PL.Res (List PL.D × PL.Env) := fun x ρ => (PL.ofO (PL.tgSet tg x (PL.wipe ρ os))).bind fun ρ2 => (rs1 ρ2).bind fun (ys, ρ3) => PL.compGo (PL.compStep (tgs tg1) tg1 rc re) ys ρ3
  have eg : PL.compGo2 stp xs ρ1 = .ok (ds, ρe) := eg
  let Wp : Nat → Nat → Hp → Prop := fun i m Hc => m = vs.length - i ∧ i ≤ vs.length ∧ ∃ Zc ρc dsc rest acc, PL.compGo2 stp (xs.drop i) ρc = .ok (rest, ρe) ∧ ds = dsc ++ rest ∧ LS G D H1 Z1 (Own σ ρ1) σ os Hc Zc ρc dsc acc
  refine ⟨Wp, ⟨vs.length, by simp, Nat.zero_le _, ?_⟩, ?_⟩
  · have g := I1.grow (upd_grow (o := .lst []) hD)
    exact ⟨Z1, ρ1, [], ds, [], by rw [List.drop_zero]; exact eg, rfl, g.env.wipe os, (HStep.refl.updD hD).less fun a z => z.wipe, upd_same, nz1, fun z => no1 z.wipe, RepL.nil⟩
  · rintro i m Hc ⟨rfl, hi, Zc, ρc, dsc, rest, acc, ego, eds, S⟩
    have xt : Ext H1 Z1 Hc Zc := ext_of I1 S.st
    rcases Nat.lt_or_ge i vs.length with hlt | hge
    · have hx : xs[i]? = some (xs[i]'(by omega)) := List.getElem?_eq_getElem (by omega)
      rw [List.drop_eq_getElem_cons (by omega)] at ego
      unfold PL.compGo2 at ego
      obtain ⟨⟨y, ρ4⟩, e1, ego⟩ := res_bind_ok ego
      obtain ⟨⟨ys', ρe'⟩, e2, ego⟩ := res_bind_ok ego
      obtain ⟨ρ2, t1, e1⟩ := ofO_bind_ok e1
      obtain ⟨⟨ys, ρ3⟩, t2, e1⟩ := res_bind_ok e1
      dsimp only at e1 ego
      obtain ⟨rfl, rfl⟩ : rest = y ++ ys' ∧ ρe = ρe' := by cases ego; exact ⟨rfl, rfl⟩
      obtain ⟨v, hv, rv⟩ := rl.get hx
      obtain ⟨g1, g2⟩ := (gv Hc Zc xt i).1 v hv
      refine .inr ⟨g1, Wp (i + 1) (vs.length - (i + 1)), fun H' z => ⟨vs.length - (i + 1), by omega, z⟩, fun x' H' yld => ?_⟩
      obtain ⟨rfl, rfl⟩ := g2 x' H' yld
      refine ⟨Zc, PL.wipe ρc os, xs[i]'(by omega), ρ2, S.env, Rep.ext xt _ _ rv, t1, fun ws E2 ow => ⟨weq_of htg, ?_⟩⟩
      have weq := weq_of (σ := σ) (ws := ws) htg
      dsimp only [tYes]
      rw [if_pos rfl]
      refine ⟨Zc, ρ2, E2, ?_⟩
      rw [t2]
      intro vs1 H4 Z4 J1 s4 rl1 gv1
      have noD2 : ¬ Own (setV (tgs tg) ws (L2.wipe σ os)) ρ2 D := fun z => S.no (ow D z)
      have hD4 := s4.keep D _ S.at_ noD2 (fun _ z => by cases z)
      have nz4 : ¬ Z4 D := fun z => by
        rcases s4.zn D z with q | q | q
        · exact S.nz q
        · rw [S.at_] at q; cases q
        · exact noD2 q
      have noD4 : ¬ Own (setV (tgs tg) ws (L2.wipe σ os)) ρ3 D := fun z => (s4.own D z).elim noD2 fun q => by rw [S.at_] at q; cases q
      have hst4 := S.st.trans (s4.h.more ow)
      have hlen1 := rl1.length
      let σ2 := setV (tgs tg) ws (L2.wipe σ os)
      let W1 : Nat → Nat → Hp → Prop := fun j k H5 => k = vs1.length - j ∧ j ≤ vs1.length ∧ ∃ Z5 ρ5 dsc5 rest5 acc5, PL.compGo (PL.compStep (tgs tg1) tg1 rc re) (ys.drop j) ρ5 = .ok (rest5, ρ4) ∧ ds = dsc5 ++ rest5 ++ ys' ∧
        LS G D H1 Z1 (Own σ ρ1) σ2 (tgs tg1) H5 Z5 ρ5 dsc5 acc5 ∧ Ext H4 Z4 H5 Z5
      have xt4 : ∀ {H5 : Hp} {Z5 : Addr → Prop} {O5 : Addr → Prop}, HStep H4 Z4 (Own σ2 ρ3) H5 Z5 O5 → Ext H4 Z4 H5 Z5 := fun hs => ext_of s4.env hs
      refine ⟨W1, ⟨vs1.length, by simp, Nat.zero_le _, Z4, ρ3, dsc, y, acc, by rw [List.drop_zero]; exact e1, by rw [eds, List.append_assoc], ⟨s4.env.wipe _, hst4.less fun a z => z.wipe, hD4, nz4, fun z => noD4 z.wipe, RepL.ext (s4.ext E2) _ _ S.rl⟩, Ext.refl _ _⟩, ?_⟩
      rintro j m H5 ⟨rfl, hj, Z5, ρ5, dsc5, rest5, acc5, eg5, eds5, S5, x45⟩
      rcases Nat.lt_or_ge j vs1.length with hlt1 | hge1
      · have hy : ys[j]? = some (ys[j]'(by omega)) := List.getElem?_eq_getElem (by omega)
        rw [List.drop_eq_getElem_cons (by omega)] at eg5
        unfold PL.compGo at eg5
        obtain ⟨⟨y1, ρ6⟩, f1, eg5⟩ := res_bind_ok eg5
        obtain ⟨⟨ys6, ρe6⟩, f2, eg5⟩ := res_bind_ok eg5
        dsimp only at f2 eg5
        obtain ⟨er, rfl⟩ : rest5 = y1.toList ++ ys6 ∧ ρ4 = ρe6 := by cases y1 <;> (cases eg5; exact ⟨rfl, rfl⟩)
        obtain ⟨v1, hv1, rv1⟩ := rl1.get hy
        obtain ⟨g3, g4⟩ := (gv1 H5 Z5 x45 j).1 v1 hv1
        refine .inr ⟨g3, W1 (j + 1) (vs1.length - (j + 1)), fun H' z => ⟨vs1.length - (j + 1), by omega, z⟩, fun x2 H2 yld2 => ?_⟩
        obtain ⟨rfl, rfl⟩ := g4 x2 H2 yld2
        have few5 : ∀ d, y1 = some d → acc5.length < sizeLine := fun d ed => by
          have h1 := S5.rl.length
          have h2 : ds.length = dsc5.length + rest5.length + ys'.length := by rw [eds5, List.length_append, List.length_append]
          rw [er, ed] at h2
          simp only [Option.toList, List.length_append, List.length_cons, List.length_nil] at h2
          rw [← line_eq]
          omega
        refine turn1 (fun _ h => h) S5 (Rep.ext x45 _ _ rv1) f1 few5 hD fun H6 Z6 acc6 S6 x6 => ⟨rfl, by omega, Z6, ρ6, dsc5 ++ y1.toList, ys6, acc6, f2, by rw [eds5, er]; simp, S6, x45.trans x6⟩
      · rw [List.drop_eq_nil_of_le (by omega)] at eg5
        unfold PL.compGo at eg5
        obtain ⟨rfl, rfl⟩ : rest5 = [] ∧ ρ4 = ρ5 := by cases eg5; exact ⟨rfl, rfl⟩
        have q1 : L2.wipe (L2.wipe σ2 (tgs tg1)) os = L2.wipe σ os := (wipe_wipe htg1).trans weq
        have q2 : PL.wipe (PL.wipe ρ4 (tgs tg1)) os = PL.wipe ρ4 os := pwipe_wipe htg1
        refine .inl ⟨(gv1 H5 Z5 x45 j).2 hge1, rfl, by omega, Z5, ρ4, dsc5, ys', acc5, e2, by rw [eds5, List.append_nil], ⟨?_, ?_, S5.at_, S5.nz, ?_, S5.rl⟩⟩
        · rw [← q1, ← q2]; exact S5.env.wipe os
        · rw [← q1, ← q2]; exact S5.st.less fun a z => z.wipe
        · rw [← q1, ← q2]; exact fun z => S5.no z.wipe
    · have ei : i = vs.length := by omega
      rw [List.drop_eq_nil_of_le (by omega)] at ego
      unfold PL.compGo2 at ego
      cases ego
      rw [List.append_nil] at eds
      subst eds
      refine .inl ⟨(gv Hc Zc xt i).2 hge, ?_⟩
      obtain ⟨eb, ob⟩ := REnv.back I1 S.env xt hdat
      have hs2 : HStep H Z (Own σ ρ) Hc Zc (Own σ (PL.back ρ1 ρe os)) := (st.h.trans S.st).less ob
      have hl := S.rl.length
      exact k _ Hc Zc (hs2.step eb fun _ _ => rfl) ⟨D, rfl, st.live D hD, S.nz, fun z => S.no (ob D z), acc, S.at_, by rw [← line_eq]; omega, S.rl⟩
theorem se_comp2 (hg : GX G X) {own : List (Str × Nat)} {tg tg1 : PL.Tg} {rs rs1 : PL.Ev (List PL.D)} {rc : PL.Ev Bool} {re : PL.Ev PL.D} {W0 : WX} {elt tgE iter tgE1 iter1 : Expr} {ifs1 : List Expr} {scope : Scope}
    (hc : X.calm = true) (hN : X.N.Nodup) (hi : PI X tgE iter (iSrc G W rs)) (ok : BlkOk X.N X.env.scope scope own) (htg : ∀ i ∈ tgs tg, i ∈ own.map (·.2)) (htg1 : ∀ i ∈ tgs tg1, i ∈ own.map (·.2))
    (hgt : ∀ (s : Shared) (H : Hp) (C : Addr) (cl : List (Str × Addr)) (fp : List Addr), PG (X.blk s H scope (compEnvC scope cl C X.env) fp) tgE (gD G tg))
    (hi1 : ∀ (s : Shared) (H : Hp) (C : Addr) (cl : List (Str × Addr)) (fp : List Addr), PI (X.blk s H scope (compEnvC scope cl C X.env) fp) tgE1 iter1 (iSrc G W0 rs1))
    (hgt1 : ∀ (s : Shared) (H : Hp) (C : Addr) (cl : List (Str × Addr)) (fp : List Addr), PG (X.blk s H scope (compEnvC scope cl C X.env) fp) tgE1 (gD G tg1))
    (ht : ∀ (s : Shared) (H : Hp) (C : Addr) (cl : List (Str × Addr)) (fp : List Addr), PTs (X.blk s H scope (compEnvC scope cl C X.env) fp) ifs1 (tB G W0 rc))
    (he : ∀ (s : Shared) (H : Hp) (C : Addr) (cl : List (Str × Addr)) (fp : List Addr), PE (X.blk s H scope (compEnvC scope cl C X.env) fp) elt (tD G W0 re))
    (hs : ∀ x, foldedSetIterable iter X.env x = pure x) (hs1 : ∀ env x, foldedSetIterable iter1 env x = pure x) :
    PE X (.ListComp elt [⟨tgE, iter, [], 0⟩, ⟨tgE1, iter1, ifs1, 0⟩] scope pos) (tE G W (PL.evComp2 (own.map (·.2)) tg rs tg1 rs1 rc re)) :=
  (pe_lc2 (vs1 := tgs tg1) hc hN hi ok htg1 hgt (fun s H C cl fp => pts_nil) hi1 hgt1 ht he hs hs1).imq fun σ H Q h => comp2_r htg htg1 h
end
end PLS
end

section
set_option Elab.async false
set_option linter.all false
set_option maxRecDepth 100000
set_option maxHeartbeats 4500000
/-! set(xs), xs a list of things of one kind of keys: which ones are in it, and how many -/
namespace PLS
open PySem PySem.Spec PyProof.Rows
section
variable {K : Type} [DecidableEq K]
/-- one more key met -/
def met1 (acc : List K) (k : K) : List K := if k ∈ acc then acc else acc ++ [k]
def metK (ks : List K) (i : Nat) : List K := (ks.take i).foldl met1 []
theorem metK_zero (ks : List K) : metK ks 0 = [] := by unfold metK; rw [List.take_zero]; rfl
theorem metK_succ {ks : List K} {i : Nat} {k : K} (h : ks[i]? = some k) : metK ks (i + 1) = met1 (metK ks i) k := by
  unfold metK
  rw [List.take_add_one, h, List.foldl_append]
  rfl
theorem met1_le (acc : List K) (k : K) : (met1 acc k).length ≤ acc.length + 1 := by
  unfold met1
  split
  · omega
  · rw [List.length_append]; exact Nat.le_refl _
theorem metK_le (ks : List K) : ∀ i, (metK ks i).length ≤ i
  | 0 => by rw [metK_zero]; exact Nat.le_refl _
  | i + 1 => by
    cases h : ks[i]? with
    | none =>
      have e : metK ks (i + 1) = metK ks i := by
        unfold metK
        rw [List.take_add_one, h, Option.toList, List.append_nil]
      rw [e]
      exact Nat.le_succ_of_le (metK_le ks i)
    | some k =>
      rw [metK_succ h]
      exact Nat.le_trans (met1_le _ _) (Nat.succ_le_succ (metK_le ks i))
theorem met1_mem (acc : List K) (k : K) (x : K) : decide (x ∈ met1 acc k) = (decide (x ∈ acc) || decide (x = k)) := by
  unfold met1
  by_cases h : k ∈ acc
  · rw [if_pos h]
    by_cases e : x = k
    · subst e; simp [h]
    · simp [e]
  · rw [if_neg h]
    by_cases e : x = k <;> by_cases e2 : x ∈ acc <;> simp [e, e2]
theorem met1_len (acc : List K) (k : K) : (met1 acc k).length = if decide (k ∈ acc) = true then acc.length else acc.length + 1 := by
  unfold met1
  by_cases h : k ∈ acc
  · rw [if_pos h, if_pos (decide_eq_true h)]
  · rw [if_neg h, if_neg (by simpa using h), List.length_append]; rfl
end
section
variable {prog : Program} {w : World} {A : Around} {E : Value → Shared → Prop} {s : Shared} {K : Type} [DecidableEq K] {knd : KeyKind prog w K}
/-- the set at S holds the first i keys -/
def Held (knd : KeyKind prog w K) (h : Heap) (S : Addr) (ks : List K) (i : Nat) : Prop := h.SetOf knd S (fun x => decide (x ∈ metK ks i)) (metK ks i).length
theorem Held.move {h h' : Heap} {S : Addr} {ks : List K} {i : Nat} (x : Held knd h S ks i) (k : ∀ o, h.get? S = some o → h'.get? S = some o) : Held knd h' S ks i := by
  obtain ⟨o, es, ep, t, e, r⟩ := x
  exact ⟨o, es, ep, t, k _ e, r⟩
theorem set_loop {R : Result → Shared → Prop} {I : Addr} {fp wr : List Addr} {G : Array GenState → Array GenState → Prop} {n : Nat} {P : Nat → Value → Prop} {St : Nat → Shared → Prop} (W : WalksS prog w A.in1 I fp wr G n P St) (S : Addr) (hSf : S ∉ fp)
    (ks : List K) (hv : ∀ i v, P i v → ∃ k, ks[i]? = some k ∧ knd.is k v = true ∧ v.scannable = true) (hb : n + 1 < scanBound) :
    ∀ (j i : Nat) (s : Shared), n - i = j → i ≤ n → St i s → Held knd s.heap S ks i → (∀ s', Moved (S :: wr) G s s' → Held knd s'.heap S ks n → R (.ok (.ret .none)) s') → codeAny (model prog w) A (.builtin "set.update.loop" ⟨[.ref S, .ref I], []⟩) R s := by
  have nS : S ∉ wr := fun z => hSf (W.sub _ z)
  have up : ∀ b ∈ wr, b ∈ S :: wr := fun b z => List.mem_cons_of_mem _ z
  intro j
  induction j with
  | zero =>
    intro i s e hi st hS fin
    obtain rfl : i = n := by omega
    refine codeAny_builtin F.entry_set_update_loop ?_
    rw [Around.under_plainId F.plain_set_update_loop _]
    refine wpAny_bind (m := pyNext (.ref I)) (W.done s _ _ st fun s2 mv => ?_)
    exact wpAny_pure (fin s2 (mv.mono up) (hS.move fun o q => mv.heap S o nS q))
  | succ j ih =>
    intro i s e hi st hS fin
    have lt : i < n := by omega
    refine codeAny_builtin F.entry_set_update_loop ?_
    rw [Around.under_plainId F.plain_set_update_loop _]
    refine wpAny_bind (m := pyNext (.ref I)) (W.item i s _ _ lt st fun v s2 hp st2 mv => ?_)
    obtain ⟨k, hk, isk, sc⟩ := hv i v hp
    have hS2 : Held knd s2.heap S ks i := hS.move fun o q => mv.heap S o nS q
    show wpAny _ A.in1 (holding [v] (setAdd S v) >>= _) _ _ s2
    refine wpAny_bind (wpAny_holding ?_)
    unfold setAdd
    refine wpAny_holding (wpAny_bind (knd.pyHash isk ?_))
    have few : (metK ks i).length + 1 < scanBound := by have := metK_le ks i; omega
    refine wpAny_setAddHashed_of (s := { s2 with toks := s2.toks + 1 }) isk sc hS2 few fun h3 same hS3 => ?_
    have hS4 : Held knd h3 S ks (i + 1) := SetOf_congr hS3 (fun x => by rw [metK_succ hk, met1_mem]) (by rw [metK_succ hk, met1_len])
    refine wpAny_pure ⟨plainId_quiet F.plain_set_update_loop _, ih (i + 1) _ (by omega) lt (W.frame _ s2 _ _ st2 (Nat.le_succ _) fun b z o q => ?_) hS4 fun s5 mv5 hS5 => fin s5 (Moved.trans W.gtrans ((mv.mono up).then_heap (Nat.le_succ _) fun b o z q => ?_) mv5) hS5⟩
    · rw [same.2 b fun z2 : b = S => hSf (z2 ▸ z)]; exact q
    · rw [same.2 b fun z2 : b = S => z (by rw [z2]; exact List.mem_cons_self)]; exact q
/-- the empty set as it comes from the making -/
abbrev newSet (led : Bool) : Obj := { cls := .type "set", dict := none, data := .set #[] 0 (.fresh 0 0 led) }
/-- what the call leaves behind -/
def SetBack (knd : KeyKind prog w K) (s : Shared) (ks : List K) (n : Nat) (v : Value) (s2 : Shared) : Prop :=
  v = .none ∧ ∃ (h' : Heap) (tk : Nat), s2 = { s with heap := h', toks := tk } ∧ Held knd h' s.heap.objs.size ks n ∧ ∀ b o, b < s.heap.objs.size → s.heap.get? b = some o → h'.get? b = some o
set_option maxHeartbeats 9000000 in
theorem set_list_K {l : Addr} {items : Array Value} {ks : List K} {Q : Value → Shared → Prop} (hh : A.handled = none) (hl : s.heap.IsList l items)
    (hv : ∀ (i : Nat) v, items[i]? = some v → ∃ k, ks[i]? = some k ∧ knd.is k v = true ∧ v.scannable = true) (hb : items.size + 1 < scanBound)
    (h : ∀ (h' : Heap) (tk : Nat), Held knd h' s.heap.objs.size ks items.size → (∀ b o, b < s.heap.objs.size → s.heap.get? b = some o → h'.get? b = some o) → Q (.ref s.heap.objs.size) { s with heap := h', toks := tk }) :
    wpAny (model prog w) A (call (.type "set") [.ref l]) Q E s := by
  obtain ⟨_, _, hmro⟩ := F.called_set.mro
  have f1 := F.called_set.made
  have f2 := F.called_set.sub
  have f3 := F.called_set.notType
  have f4 := F.called_set.canCreate
  have f5 := F.typeCall_set_1 (.ref l)
  refine wpAny_call (codeAny_of_tree ?_)
  show wpAny _ _ (callAny (.type "set") _) _ _ _
  refine wpAny_pure ⟨Code.quiet_builtin _ (by decide +kernel), codeAny_builtin F.entry_type_call ?_⟩
  rw [Around.under_plain (weight_type_call_type "set" [.ref l] []) rfl]
  repeat (any_goals (first | assumption | wp_step))
  refine codeAny_mono (code_set_new_1 (.ref l) (E := E) (Q₁ := fun v s1 => ∃ led : Bool, v = .ref s.heap.objs.size ∧ s1 = { s with heap := s.heap.push (newSet led) }) fun led => ⟨led, rfl, rfl⟩) fun r s1 hr => ?_
  rcases r with e | fl
  · exact hr
  rcases fl with _ | _ | _ | v
  all_goals try exact hr.elim
  obtain ⟨led, rfl, rfl⟩ := hr
  have oS : (s.heap.push (newSet led)).get? s.heap.objs.size = some (newSet led) := Heap.get?_push_size _ rfl
  have tS : Shared.TypeIs { s with heap := s.heap.push (newSet led) } (.ref s.heap.objs.size) "set" := ⟨_, oS, rfl⟩
  have g1 := F.called_set.init.lookup
  have g2 := F.called_set.init.bind (.ref s.heap.objs.size)
  repeat (any_goals (first | assumption | wp_step))
  refine codeAny_mono (codeAny_call_builtin (R := wants (SetBack knd s ks items.size) E) F.called_set.init.plain F.entry_set_init (check_set_init_1 tS ?_)) fun r2 s2 hr2 => ?_
  · obtain ⟨⟨oc, od, dat, osl⟩, hol, hc, nl, hd⟩ := hl
    simp only at hc hd
    subst hc hd
    have lS : l < s.heap.objs.size := Heap.lt_size hol
    have hol1 := Heap.get?_push_of_some (newSet led) hol
    have hl1 : (s.heap.push (newSet led)).IsList l items := ⟨_, hol1, rfl, nl, rfl⟩
    have k1 := F.sub_list_set
    have k2 := F.sub_list_frozenset
    have k3 : (Value.type "list" == Value.type "dict") = false := by decide
    have ez := Heap.size_push s.heap (newSet led)
    unfold Builtin.«set.__init__» noKeywords Builtin.Frozenset.updateFrom
    generalize hPI : pyIter = PI
    wp_walk
    subst hPI
    refine wpAny_pyIter_list hl1 (wpAny_bind (wpAny_runValue ?_))
    have hne : l ≠ (s.heap.push (newSet led)).objs.size := by rw [ez]; exact Nat.ne_of_lt (Nat.lt_succ_of_lt lS)
    have hSf : s.heap.objs.size ∉ [(s.heap.push (newSet led)).objs.size, l] := by
      rw [ez]
      intro z
      rcases List.mem_cons.mp z with z | z
      · exact Nat.ne_of_lt (Nat.lt_succ_self _) z
      · exact Nat.ne_of_lt lS (List.mem_singleton.mp z).symm
    refine set_loop (knd := knd) ((Walks.list (show A.in1.in1.in1.handled = none from hh) _ l hne items).toS) s.heap.objs.size hSf ks hv hb (items.size - 0) 0 _ (by omega) (Nat.zero_le _) ⟨⟨_, Heap.get?_push_size _ rfl, rfl, rfl⟩, (hl1.push _)⟩ ?_ ?_
    · exact SetOf_congr ((setObjOf_fresh (knd := knd) led).setOf (Heap.get?_push_of_some _ oS) (by unfold scanBound; omega)) (fun x => by rw [metK_zero]; rfl) (by rw [metK_zero]; rfl)
    · rintro ⟨h5, g5, d5, t5, o5⟩ mv hS5
      obtain rfl : g5 = s.gens := mv.gens
      obtain rfl : d5 = s.drawn := mv.drawn
      obtain rfl : o5 = s.os := mv.os
      refine wpAny_pure (wpAny_pure ⟨rfl, h5, t5, rfl, hS5, fun b o z q => ?_⟩)
      refine mv.heap b o (fun z2 => ?_) (Heap.get?_push_of_some _ (Heap.get?_push_of_some _ q))
      rw [ez] at z2
      rcases List.mem_cons.mp z2 with z2 | z2
      · exact Nat.ne_of_lt z z2
      · exact Nat.ne_of_lt (Nat.lt_succ_of_lt z) (List.mem_singleton.mp z2)
  · rcases r2 with e | fl
    · exact hr2
    rcases fl with _ | _ | _ | v
    all_goals try exact hr2.elim
    obtain ⟨rfl, h5, t5, rfl, hS5, k5⟩ := hr2
    repeat (any_goals (first | assumption | wp_step))
    exact h _ _ hS5 k5
end
end PLS
end

section
set_option Elab.async false
set_option linter.all false
set_option maxRecDepth 100000
set_option maxHeartbeats 4500000
/-! len(set(xs)), sorted(intsD) -/
namespace PLS
open PySem PySem.Spec PyProof.Rows L2 PySem.W
section
/-- the key that a thing is -/
def kd : PL.D → Key
  | .int i => .inl i
  | .str x => .inr ⟨x.toArray⟩
  | _ => .inl 0
theorem kd_same {a b : PL.D} (h : PL.flatK a = true) (h' : PL.flatK b = true) : a.same b = true ↔ kd a = kd b := by
  cases a <;> (first | (cases h; done) | skip) <;> cases b <;> (first | (cases h'; done) | skip)
  · simp [PL.D.same, kd]
  · simp [PL.D.same, kd]
  · simp [PL.D.same, kd]
  · simp [PL.D.same, kd]
theorem met_dedup : ∀ (xs acc : List PL.D), xs.all PL.flatK = true → acc.all PL.flatK = true → (xs.map kd).foldl met1 (acc.reverse.map kd) = (PL.dedupGo xs acc).map kd
  | [], acc, _, _ => rfl
  | x :: xs, acc, h, h' => by
    rw [List.all_cons, Bool.and_eq_true] at h
    rw [List.map_cons, List.foldl_cons]
    unfold PL.dedupGo
    have m : kd x ∈ acc.reverse.map kd ↔ acc.any (x.same ·) = true := by
      rw [List.map_reverse, List.mem_reverse, List.mem_map, List.any_eq_true]
      exact ⟨fun ⟨y, hy, e⟩ => ⟨y, hy, (kd_same h.1 (List.all_eq_true.mp h' y hy)).mpr e.symm⟩, fun ⟨y, hy, e⟩ => ⟨y, hy, ((kd_same h.1 (List.all_eq_true.mp h' y hy)).mp e).symm⟩⟩
    unfold met1
    by_cases q : acc.any (x.same ·) = true
    · rw [if_pos (m.mpr q), if_pos q]
      exact met_dedup xs acc h.2 h'
    · rw [if_neg fun z => q (m.mp z), if_neg q, ← met_dedup xs (x :: acc) h.2 (by rw [List.all_cons, h.1, h']; rfl)]
      rw [List.reverse_cons, List.map_append]
      rfl
theorem met_len {xs : List PL.D} (h : xs.all PL.flatK = true) : (metK (xs.map kd) xs.length).length = (PL.dedup xs).length := by
  have e := met_dedup xs [] h rfl
  unfold metK PL.dedup
  rw [show (xs.map kd).take xs.length = xs.map kd from List.take_of_length_le (by rw [List.length_map]; exact Nat.le_refl _)]
  have e2 : (xs.map kd).foldl met1 [] = (PL.dedupGo xs []).map kd := e
  rw [e2, List.length_map]
end
section
variable {G : GS} {X : Cx} {W : WX} {σ : St} {H : Hp} {Z : Addr → Prop} {ρ : PL.Env} {p p2 q pos : Pos} {a b c : Expr} {ra : PL.Ev PL.AV}
theorem flat_keys (hg : GX G X) : ∀ {ds : List PL.D} {vs : List V} {us : List Value}, ds.all PL.flatK = true → G.RL H Z ds vs → Vals vs us → ∀ (i : Nat) v, us[i]? = some v → ∃ k, (ds.map kd)[i]? = some k ∧ (mixKind X.prog X.w).is k v = true ∧ v.scannable = true
  | [], _, us, _, r, rv, i, v, e => by
    simp only [GS.RL, RepL] at r
    subst r
    cases rv
    simp at e
  | d :: ds, _, us, h, r, rv, i, v, e => by
    simp only [GS.RL, RepL] at r
    obtain ⟨x, vs, rfl, r1, r2⟩ := r
    rw [List.all_cons, Bool.and_eq_true] at h
    cases rv with
    | cons rx rr =>
      cases i with
      | succ i => exact flat_keys hg h.2 r2 rr i v (by simpa using e)
      | zero =>
        simp at e
        subst e
        refine ⟨kd d, rfl, ?_⟩
        cases d <;> (first | (cases h.1; done) | skip)
        · simp only [Rep] at r1
          subst r1
          obtain ⟨t, rfl⟩ := rx
          exact ⟨keyIs_int _ t, rfl⟩
        · simp only [Rep] at r1
          subst r1
          obtain ⟨t, rfl⟩ := rx
          exact ⟨keyIs_str _ t, rfl⟩
/-- len(set(xs)) -/
theorem se_lenset (hg : GX G X) (hc : X.calm = true) (g1 : Gl X "len") (m1 : X.mg "len" = none) (g2 : Gl X "set") (m2 : X.mg "set" = none) (ha : PE X a (tE G W ra)) (h1 : starEach [a] X.env = (false, eval a X.env) :: starEach [] X.env) :
    PE X (.Call (.Name "len" p) [.Call (.Name "set" p2) [a] [] q] [] pos) (tE G W (PL.ev1 ra PL.lensetD)) := by
  refine ⟨fun pins s σ H Q I h => ?_⟩
  have h := ev1_r h
  refine Call_ (ld_blt I g1 m1 boot_len (callWith_builtin1 (args_cons ?_ rfl) rfl rfl))
  refine Call_ (ld_blt I g2 m2 boot_set (callWith_type1 (args_cons (thn (ha.run pins s σ H _ I h) fun v s1 ⟨x, H1, I1, r1, q1⟩ => args_nil ?_) h1) h1 rfl))
  obtain ⟨Z, d, z, zin, hx, ez, qq⟩ := q1
  cases d <;> (first | (cases ez; done) | skip)
  rename_i ds
  obtain ⟨⟨hf, hl⟩, rfl⟩ := if_some ez
  obtain ⟨l, vs, rfl, hq, hz, rl⟩ := vw_lst hx
  rw [hg.k] at hq
  cases r1
  obtain ⟨its, rv, pl, _⟩ := I1.list hq
  have e1 : its.toArray.size = vs.length := by rw [List.size_toArray, ← rv.length]
  have e2 := rl.length
  refine set_list_K (knd := mixKind X.prog X.w) (I1.ok.hd hc) pl.isList (ks := _) (fun i v e => flat_keys hg hf rl rv i v (by simpa using e)) (by rw [e1]; unfold scanBound; omega) fun h' tk hS hk => ?_
  refine args_nil ?_
  rw [e1, ← e2] at hS
  unfold Held at hS
  rw [met_len hf] at hS
  obtain ⟨o, es, ep, t, ho, hex, hd, _, _, _, hfi, hn⟩ := hS
  have I2 : Inv X pins σ H1 { s1 with heap := h', toks := tk } := I1.kept fun b o e => hk b o (Heap.lt_size e) e
  have lim : (PL.dedup ds).length ≤ 4000 := by
    have := metK_le (ds.map kd) ds.length
    rw [met_len hf] at this
    omega
  exact call_len_set ho hex hd hfi (by rw [hn]; omega) ⟨.int (PL.dedup ds).length, H1, I2.tok _, ⟨_, by rw [hn]⟩, qq (.int (PL.dedup ds).length) H1 (fun _ _ h => h) (r_int (G := G) (H := H1) (Z := Z))⟩
theorem insI_perm (x : Int) : ∀ ys : List Int, (PL.insI x ys).Perm (x :: ys)
  | [] => List.Perm.refl _
  | y :: ys => by
    unfold PL.insI
    split
    · exact ((insI_perm x ys).cons y).trans (List.Perm.swap x y ys)
    · exact List.Perm.refl _
theorem insI_sorted (x : Int) : ∀ ys : List Int, ys.Pairwise (· ≤ ·) → (PL.insI x ys).Pairwise (· ≤ ·)
  | [], _ => List.pairwise_singleton _ _
  | y :: ys, h => by
    obtain ⟨h1, h2⟩ := List.pairwise_cons.mp h
    unfold PL.insI
    split
    · rename_i lt
      refine List.pairwise_cons.mpr ⟨fun z hz => ?_, insI_sorted x ys h2⟩
      rcases List.mem_cons.mp ((insI_perm x ys).mem_iff.mp hz) with e | e
      · omega
      · exact h1 z e
    · rename_i lt
      refine List.pairwise_cons.mpr ⟨fun z hz => ?_, h⟩
      rcases List.mem_cons.mp hz with e | e
      · omega
      · have := h1 z e; omega
theorem isortI_ok : ∀ xs : List Int, (PL.isortI xs).Perm xs ∧ (PL.isortI xs).Pairwise (· ≤ ·)
  | [] => ⟨List.Perm.refl _, List.Pairwise.nil⟩
  | x :: xs => by
    obtain ⟨h1, h2⟩ := isortI_ok xs
    exact ⟨(insI_perm x _).trans (h1.cons x), insI_sorted x _ h2⟩
theorem sorted_is {xs ys : List Int} (p : ys.Perm xs) (h : ys.Pairwise (· ≤ ·)) : ys = PL.isortI xs := by
  obtain ⟨h1, h2⟩ := isortI_ok xs
  exact (p.trans h1.symm).eq_of_pairwise (fun a b _ _ x y => Int.le_antisymm x y) h h2
theorem ints_vals : ∀ {ds : List PL.D} {ns : List Int} {vs : List V}, PL.intsD ds = some ns → G.RL H Z ds vs → vs = ns.map V.int ∧ ds = ns.map .int
  | [], ns, vs, e, r => by
    cases e
    simp only [GS.RL, RepL] at r
    exact ⟨r, rfl⟩
  | d :: ds, ns, vs, e, r => by
    simp only [GS.RL, RepL] at r
    obtain ⟨v, vs, rfl, r1, r2⟩ := r
    cases d <;> (first | (cases e; done) | skip)
    unfold PL.intsD at e
    cases q : PL.intsD ds with
    | none => rw [q] at e; cases e
    | some ms =>
      rw [q] at e
      cases e
      obtain ⟨h1, h2⟩ := ints_vals q r2
      simp only [Rep] at r1
      rw [r1, h1, h2]
      exact ⟨rfl, rfl⟩
theorem ints_repL : ∀ {ns : List Int}, G.RL H Z (ns.map .int) (ns.map V.int)
  | [] => RepL.nil
  | n :: ns => RepL.cons (r_int (G := G)) ints_repL
end
section
variable {prog : Program} {w : World} {A : Around} {E : Value → Shared → Prop} {s : Shared}
/-- the list that an iterable's items are gathered in -/
abbrev gath (h : Heap) (items : Array Value) : Heap := (h.push (seqObj "list" #[] 0)).update h.objs.size (Obj.mapSeq (· ++ items))
theorem gath_keep {h : Heap} {items : Array Value} {b : Addr} {u : Obj} (q : h.get? b = some u) : (gath h items).get? b = some u :=
  (Heap.get?_update_other _ _ (Nat.ne_of_gt (Heap.lt_size q))).trans (Heap.get?_push_of_some _ q)
theorem gath_size (h : Heap) (items : Array Value) : (gath h items).objs.size = h.objs.size + 1 := by rw [Heap.size_update, Heap.size_push]
theorem collect_any {l : Addr} {T : String} {o : Obj} {items : Array Value} {n : Nat} {Q : List Value → Shared → Prop} (hT : T = "list" ∨ T = "tuple") (ho : s.heap.get? l = some o) (hc : o.cls = .type T) (hd : o.data = .seq items n) (hz : items.size ≤ sizeLine)
    (h : Q items.toList { s with heap := gath s.heap items }) : wpAny (model prog w) A (collect (.ref l)) Q E s := by
  have o1 : (s.heap.push (seqObj "list" #[] 0)).get? s.heap.objs.size = some (seqObj "list" #[] 0) := Heap.get?_push_size _ rfl
  have o2 := Heap.get?_update_self (Obj.mapSeq (· ++ items)) o1 rfl
  unfold collect
  refine wpAny_bind (wpAny_runValue (codeAny_builtin F.entry_proto_collect ?_))
  rw [Around.under_plainId F.plain_proto_collect _]
  refine wpAny_bind (m := newList []) (wpAny_newObj_type (wpAny_pure ⟨plainId_quiet F.plain_list_iadd _, codeAny_builtin F.entry_list_iadd ?_⟩))
  rw [Around.under_plainId F.plain_list_iadd _]
  have back : wpAny (model prog w) A (match Value.ref s.heap.objs.size with
      | .ref a => do
        match (← load a).data with
          | .seq xs _ => pure xs.toList
          | _ => unsupported "internal:collect"
      | _ => unsupported "internal:collect") Q E { s with heap := gath s.heap items } := by
    refine wpAny_bind (m := load s.heap.objs.size) (wpAny_load o2 (wpAny_pure ?_))
    have e : ((#[] : Array Value) ++ items).toList = items.toList := by simp
    show Q ((#[] : Array Value) ++ items).toList _
    rw [e]
    exact h
  have ext := wpAny_extend_seq (prog := prog) (w := w) (A := A) (s := { s with heap := s.heap.push (seqObj "list" #[] 0) }) (R := fun r s2 => r = .ok (.ret (.ref s.heap.objs.size)) ∧ s2 = { s with heap := gath s.heap items })
    s.heap.objs.size l (.ref s.heap.objs.size) 0 hT o1 (Heap.get?_push_of_some _ ho) hc hd ⟨rfl, rfl⟩ hz
  refine wpAny_mono ext (fun f s2 r => ?_) fun e s2 r => (by cases r.1)
  cases f with
  | done f =>
    obtain ⟨e1, rfl⟩ := r
    cases e1
    exact back
  | again c =>
    refine ⟨r.1, codeAny_mono r.2 fun x s3 z => ?_⟩
    obtain ⟨rfl, rfl⟩ := z
    exact back
/-- sorted(x), x a list or a tuple of intsD -/
theorem sorted_any {l : Addr} {T : String} {o : Obj} {vs : List Value} {n : Nat} {ns : List Int} {Q : Value → Shared → Prop} (hT : T = "list" ∨ T = "tuple") (ho : s.heap.get? l = some o) (hc : o.cls = .type T) (hd : o.data = .seq vs.toArray n) (hi : IntsAre vs ns) (hz : vs.length ≤ sizeLine)
    (h : ∀ (h' : Heap) (a : Addr) (out : List Value) (ep : Nat), (∀ b u, s.heap.get? b = some u → h'.get? b = some u) → s.heap.objs.size ≤ a → h'.get? a = some (seqObj "list" out.toArray ep) → IntsAre out (PL.isortI ns) → Q (.ref a) { s with heap := h' }) :
    wpAny (model prog w) A (call (.builtin "sorted") [.ref l]) Q E s := by
  refine Calls.call_function_entry kind_sorted plain_sorted entry_sorted (args_sorted1 _) ?_
  unfold Builtin.«sorted»
  refine wpAny_bind (m := checkCount "sorted" 1 1 _) (wpAny_pure (wpAny_bind ?_))
  refine collect_any hT ho hc hd (by simpa using hz) (wpAny_bind (wpAny_newList ?_ (by simpa using hz)))
  have k1 : ∀ b u, s.heap.get? b = some u → (gath s.heap vs.toArray).get? b = some u := fun b u q => gath_keep q
  generalize hh1 : gath s.heap vs.toArray = h1 at k1
  have oL : (h1.push (seqObj "list" vs.toArray 0)).get? h1.objs.size = some (seqObj "list" vs.toArray 0) := Heap.get?_push_size _ rfl
  refine wpAny_bind (wpAny_holding (wpAny_call_entry slot_list_sort ⟨_, oL, rfl⟩ entry_list_sort (SrtO.list_sort_ord (s := { s with heap := h1.push (seqObj "list" vs.toArray 0) }) SrtO.swo_int oL hz (fun h2 => SrtO.ints_sortable hi h2) fun out a1 a2 => ⟨_, rfl, ?_⟩) (args_list_sort _)))
  refine wpAny_pure ⟨_, rfl, ?_⟩
  obtain ⟨k2, k3, k4⟩ := SrtO.ints_out hi a1 a2
  obtain ⟨ep, he⟩ := sortedHeap_at (vs := vs) (out := out.toArray) oL
  have big : s.heap.objs.size ≤ h1.objs.size := by rw [← hh1, gath_size]; exact Nat.le_succ _
  refine h _ h1.objs.size out ep (fun b u q => ?_) big he (by rw [← sorted_is k3 k4]; exact k2)
  have q1 := k1 b u q
  rw [sortedHeap_old (fun e => Nat.lt_irrefl _ (Nat.lt_of_lt_of_le (Heap.lt_size q) (by rw [e]; exact big))) (Nat.lt_of_lt_of_le (Heap.lt_size q1) (by rw [Heap.size_push]; exact Nat.le_succ _))]
  exact Heap.get?_push_of_some _ q1
end
section
variable {G : GS} {X : Cx} {W : WX} {σ : St} {H : Hp} {Z : Addr → Prop} {ρ : PL.Env} {p p2 q pos : Pos} {a b c : Expr} {ra : PL.Ev PL.AV}
theorem oc_sorted (hg : GX G X) : CallR X (.builtin "sorted") (c1D G PL.sortedD) := by
  intro pins s σ H vs us Q I r h
  obtain ⟨x, rfl, Z, d, z, zin, hx, ez, qq⟩ := h
  unfold PL.sortedD at ez
  cases e1 : PL.seqD d with
  | none => rw [e1] at ez; cases ez
  | some xs =>
    rw [e1] at ez
    cases e2 : PL.intsD xs with
    | none =>
      have ez : (PL.intsD xs).map _ = some z := ez
      rw [e2] at ez; cases ez
    | some ns =>
      have ez : (PL.intsD xs).map _ = some z := ez
      rw [e2] at ez
      cases ez
      have fin : ∀ {l : Addr} {T : String} {o : Obj} {its : List Value} {n : Nat} {ws : List V}, us = [.ref l] → (T = "list" ∨ T = "tuple") → s.heap.get? l = some o → o.cls = .type T → o.data = .seq its.toArray n → Vals ws its → ws = ns.map V.int → its.length ≤ sizeLine →
          wpAny (model X.prog X.w) X.A (call (.builtin "sorted") us) (EP X pins σ Q) X.xe s := fun {l T o its n ws} eu hT ho hc hd rv ew hz => by
        subst eu ew
        refine sorted_any hT ho hc hd rv.ints hz fun h' a out ep keep le he hi => ?_
        have hlen : ((PL.isortI ns).map V.int).length ≤ sizeLine := by
          rw [List.length_map, (isortI_ok ns).1.length_eq]
          have := rv.length
          rw [List.length_map] at this
          omega
        have n1 : H a = none := I.hok.fresh le
        exact ⟨.ref a, upd H a (.lst ((PL.isortI ns).map V.int)), I.laid (t' := s.toks) keep le ⟨hlen, out, ep, vals_of_ints hi, he⟩, rfl, qq _ _ (upd_grow n1) (res_lst n1 hlen ints_repL)⟩
      cases d <;> (first | (cases e1; done) | skip)
      · cases e1
        obtain ⟨l, vs, rfl, h1, l1, r1⟩ := vw_tup hx
        obtain ⟨its, rv, pl, hz⟩ := I.tuple h1.sq
        obtain ⟨o, ho, hc, n, hd⟩ := pl
        exact fin (Vals.ref1 r) (.inr rfl) ho hc hd rv (ints_vals e2 r1).1 (by rw [← rv.length]; exact hz)
      · cases e1
        obtain ⟨l, vs, rfl, h1, l1, r1⟩ := vw_lst hx
        rw [hg.k] at h1
        obtain ⟨its, rv, pl, hz⟩ := I.list h1
        obtain ⟨o, ho, hc, n, hd⟩ := pl.isList
        exact fin (Vals.ref1 r) (.inl rfl) ho hc hd rv (ints_vals e2 r1).1 (by rw [← rv.length]; exact hz)
end
end PLS
end

section
set_option Elab.async false
set_option linter.all false
set_option maxRecDepth 100000
set_option maxHeartbeats 4500000
/-! a lambda handed to a def -/
namespace PLS
open PySem PySem.Spec PyProof.Rows L2 PySem.W LamX
section
variable {X : Cx} {pins : List (Addr × Obj)} {σ : L2.St} {H : Hp} {s : Shared}
/-- the lambda is made; nothing that is tracked goes -/
theorem lam_made {T : List (Addr × Str)} {c P : Addr} {q : Str} {params : Arguments} {body : Expr} {scope : Scope} {pos : Pos} {E Q : Value → Shared → Prop} (I : L2.Inv X pins σ H s) (TB : TabB X.base X.mg c P) (hq : X.env.qual ++ "<lambda>" = q) (hcode : X.env.code = .ref c)
    (hm : (P, q) ∈ T) (hu : ∀ p ∈ T, p.1 = P → p.2 = q) (hT : Tabs T H) (hdef : defaultsOf params X.env = ([], [])) (hfree : ∀ y ∈ scope.names, y.2 = .free → ∃ c, X.env.cells.lookup y.1 = some c)
    (h : ∀ (f d : Addr) (pm ctv : Value) (H1 : Hp) (s1 : Shared), L2.Inv X pins σ H1 s1 → ExtN H H1 → (∀ a, H1 a = none → H a = none) → Tabs T H1 → s1.heap.get? f = some (kla_obj "<lambda>" q params body scope (cloFrom X.env.cells scope.names []) pm d ctv) → H1 f = none → f ∉ frs X.stack →
      H1 d = some (CodeO d q) → Q (.ref f) s1) :
    wpAny (model X.prog X.w) X.A (eval (.Lambda params body scope pos) X.env) Q E s := by
  obtain ⟨ps, tP, t3, tq⟩ := hT (P, q) hm
  subst hq
  have onP : s.heap.get? P = some { cls := .none, data := .fields ps } := I.hok P _ tP
  have bP : s.heap.BuiltinsAt X.mg P := TB.bm.keeps I.bk
  have far : ∀ f, s.heap.objs.size ≤ f → f ∉ frs X.stack := fun f le z => (List.mem_cons.mp (I.stkSub f z)).elim (fun e => by have := I.lt; rw [← e] at this; exact Nat.not_lt.mpr le this) (I.nofs le)
  refine kla_eval hdef ?_
  cases hc : codeAmong pos ps.toList with
  | some cv =>
    obtain ⟨d, rfl, cd⟩ := tq pos cv hc
    refine kla_makeFunctionHit (mg := X.mg) (c := c) (P := P) (ps := ps) (closure_ok hfree) I.ok.glob (I.mod.glob.keeps I.bk) hcode (TB.code.keeps I.bk) onP t3 hc bP fun ctv h1 tk keep le => ?_
    exact h h1.objs.size d ((X.mg "__name__").getD .none) ctv H _ (I.kept fun b o e => Heap.get?_push_of_some _ (keep b o e)) (ExtN.refl H) (fun _ z => z) hT (Heap.get?_push_size _ rfl) (I.hok.fresh le) (far _ le) cd
  | none =>
    refine kla_makeFunction (mg := X.mg) (c := c) (P := P) (ps := ps) (closure_ok hfree) I.ok.glob (I.mod.glob.keeps I.bk) hcode (TB.code.keeps I.bk) onP t3 hc TB.gP bP fun d ctv h1 tk keep le lt isC isT => ?_
    obtain ⟨d2, oc, vs, t, e2, hoc, hdc, hvc⟩ := isC
    cases e2
    have le2 : s.heap.objs.size ≤ h1.objs.size := Nat.le_trans le (Nat.le_of_lt lt)
    have nd : H d = none := I.hok.fresh le
    have nPd : P ≠ d := ne_of_none tP nd
    let row : Array Value := #[rawInt pos.line, rawInt pos.col, .ref d]
    let H1 : Hp := upd (upd H P (.tbl (ps ++ row))) d (CodeO d (X.env.qual ++ "<lambda>"))
    have J := inv_table (t' := tk) (more := row) (h' := h1.push (kla_obj "<lambda>" (X.env.qual ++ "<lambda>") params body scope (cloFrom X.env.cells scope.names []) ((X.mg "__name__").getD .none) d ctv)) I tP
      (fun b o n e => Heap.get?_push_of_some _ (keep b o n e)) (Heap.get?_push_of_some _ isT) le ⟨oc, vs, t, Heap.get?_push_of_some _ hoc, hdc, hvc⟩
    have aP : H1 P = some (.tbl (ps ++ row)) := by show upd _ _ _ _ = _; rw [upd_ne nPd, upd_same]
    have ad : H1 d = some (CodeO d (X.env.qual ++ "<lambda>")) := upd_same
    have ao : ∀ b, b ≠ P → b ≠ d → H1 b = H b := fun b x y => by show upd _ _ _ _ = _; rw [upd_ne y, upd_ne x]
    have ext : ExtN H H1 := fun b o e n => by
      rw [ao b (fun z => n ps (Option.some.inj (e.symm.trans (by rw [z]; exact tP)))) (ne_of_none e nd)]
      exact e
    have live : ∀ a, H1 a = none → H a = none := fun a z => by
      by_cases x : a = P
      · rw [x, aP] at z; cases z
      · by_cases y : a = d
        · rw [y]; exact nd
        · rwa [ao a x y] at z
    have eL : (ps ++ row).toList = ps.toList ++ [rawInt pos.line, rawInt pos.col, .ref d] := by simp [row]
    refine h h1.objs.size d ((X.mg "__name__").getD .none) ctv H1 _ J ext live (fun p hp => ?_) (Heap.get?_push_size _ rfl) ?_ (far _ le2) ad
    · by_cases x : p.1 = P
      · rw [hu p hp x, x]
        refine ⟨_, aP, by rw [eL]; exact TriplesOk_snoc _ _ _ _ t3, fun pos2 cv2 h2 => ?_⟩
        rw [eL] at h2
        rcases among_app _ t3 h2 with z | z
        · obtain ⟨c0, e1, e2⟩ := tq pos2 cv2 z
          exact ⟨c0, e1, ext _ _ e2 codeO_ne⟩
        · exact ⟨d, z, ad⟩
      · obtain ⟨ps2, a1, a2, a3⟩ := hT p hp
        refine ⟨ps2, by rw [ao _ x (ne_of_none a1 nd)]; exact a1, a2, fun pos2 cv2 h2 => ?_⟩
        obtain ⟨c0, e1, e2⟩ := a3 pos2 cv2 h2
        exact ⟨c0, e1, ext _ _ e2 codeO_ne⟩
    · have ltP : P < s.heap.objs.size := Heap.lt_size onP
      rw [ao _ (Nat.ne_of_gt (Nat.lt_of_lt_of_le ltP le2)) (Nat.ne_of_gt lt)]
      exact I.hok.fresh le2
end
section
variable {G : GS} {H H1 H2 : Hp} {Z Z1 : Addr → Prop} {σ σ1 : St} {ρ ρ1 : PL.Env}
/-- all but tables stay -/
theorem REnv.growN (I : REnv G H Z σ ρ) (e : ExtN H H1) (l : ∀ a, H1 a = none → H a = none) (t : Tabs G.T H1) : Step G H Z σ ρ H1 Z σ ρ := by
  have x : Ext H Z H1 Z := ⟨fun _ h => h, fun a o h _ n => e a o h n, fun a xs h => e _ _ h (fun _ q => by cases q), fun a o u h => e _ _ h (fun _ q => by cases q)⟩
  refine ⟨⟨I.len, fun i s h => ?_, I.apart, t, fun a z => ?_⟩, fun _ h => h, fun _ h => .inl h, fun a o h _ n => e a o h n, fun _ h => .inl h, l, fun _ _ => rfl⟩
  · obtain ⟨v, h1, h2⟩ := I.at_ i s h
    refine ⟨v, h1, ?_⟩
    cases s with
    | d y => exact Rep.ext x y v h2
    | w y =>
      obtain ⟨a, e1, nz, r⟩ := h2
      exact ⟨a, e1, nz, RepO.ext x (fun o h n => e a o h n) r⟩
    | lam n =>
      obtain ⟨f, e1, h3⟩ := h2
      exact ⟨f, e1, e f _ h3 fun ps q => G.nt n f ps q⟩
    | ali i k => exact h2
  · obtain ⟨o, ho⟩ := I.zin a z
    cases q : H1 a with
    | none => rw [l a q] at ho; cases ho
    | some u => exact ⟨u, rfl⟩
theorem hide_get {i : Nat} {s : PL.SV} (h : (PL.hide ρ)[i]? = some (some s)) : (∃ d, s = .d d) ∧ ρ[i]? = some (some s) := by
  unfold PL.hide at h
  rw [List.getElem?_map] at h
  cases q : ρ[i]? with
  | none => rw [q] at h; cases h
  | some o =>
    rw [q] at h
    cases o with
    | none => cases h
    | some t => cases t <;> (first | (cases h; exact ⟨⟨_, rfl⟩, rfl⟩) | cases h)
theorem own_hide {a : Addr} (h : Own σ (PL.hide ρ) a) : False := by
  obtain ⟨i, x, h1, h2⟩ := h
  obtain ⟨⟨d, e⟩, _⟩ := hide_get h1
  cases e
theorem REnv.hide (I : REnv G H Z σ ρ) : REnv G H Z σ (PL.hide ρ) where
  len := by rw [I.len]; unfold PL.hide; rw [List.length_map]
  at_ := fun i s h => I.at_ i s (hide_get h).2
  apart := fun i j x s a h1 => by obtain ⟨⟨d, e⟩, _⟩ := hide_get h1; cases e
  tabs := I.tabs
  zin := I.zin
/-- what ran on the hidden frame leaves the frame as it was -/
theorem Step.unhide (I : REnv G H Z σ ρ) (s : Step G H Z σ (PL.hide ρ) H1 Z1 σ ρ1) : Step G H Z σ ρ H1 Z1 σ ρ := by
  have kp : ∀ a o, H a = some o → (∀ ps, o ≠ .tbl ps) → H1 a = some o := fun a o h t => s.keep a o h own_hide t
  have x : Ext H Z H1 Z1 := s.ext I.hide
  have nz : ∀ a, ¬ Z a → (∃ o, H a = some o) → ¬ Z1 a := fun a n ⟨o, h⟩ z => by
    rcases s.zn a z with q | q | q
    · exact n q
    · rw [h] at q; cases q
    · exact own_hide q
  refine ⟨⟨I.len, fun i sv h => ?_, I.apart, s.env.tabs, s.env.zin⟩, s.zz, fun a z => (s.zn a z).imp id (Or.imp id fun q => (own_hide q).elim), fun a o h _ t => kp a o h t, fun a h => .inl h, s.live, fun _ _ => rfl⟩
  obtain ⟨v, h1, h2⟩ := I.at_ i sv h
  refine ⟨v, h1, ?_⟩
  cases sv with
  | d y => exact Rep.ext x y v h2
  | w y =>
    obtain ⟨a, e1, n, r⟩ := h2
    obtain ⟨o, ho, _⟩ := RepO.kind r
    exact ⟨a, e1, nz a n ⟨o, ho⟩, RepO.ext x (fun o h t => kp a o h t) r⟩
  | lam n =>
    obtain ⟨f, e1, h3⟩ := h2
    exact ⟨f, e1, kp f _ h3 fun ps q => G.nt n f ps q⟩
  | ali i k => exact h2
end
end PLS
end

section
set_option Elab.async false
set_option linter.all false
set_option maxRecDepth 100000
set_option maxHeartbeats 4500000
/-! an own exception with fields: its __init__ begins with super().__init__(text) -/
namespace PLS
open PySem PySem.Spec PyProof.Rows L2 PySem.W
section
variable {prog : Program} {w : World} {A : Around} {E : Value → Shared → Prop} {h : Heap} {g : Array GenState} {d : Drawn} {t : Nat} {os : OsState}
/-- ValueError.__init__ bound to the exception, called -/
theorem call_mw {u e t0 C : Addr} {nm q : Str} {N : Addr} {bs bm : List Value} {hdct : Bool} {sn : List Str} {sub : List Value} {ab : Bool} {col : Option Bool} {dd : Option Addr} {k0 k1 k2 k3 k5 : Option Value} {rest : List Value} {Q : Value → Shared → Prop}
    (hC : h.get? C = some (excClassObj nm q C N bs bm hdct sn sub ab col dd k0 k1 k2 k3 k5 "ValueError.__new__")) (he : h.get? e = some (PySem.HandSPX.excO C t0)) (hu : h.get? u = some (kxs_mw "ValueError.__init__" e)) (hz : rest.length ≤ sizeLine)
    (hq : ∀ h' t1, (∀ b o, b ≠ e → h.get? b = some o → h'.get? b = some o) → h'.get? e = some (PySem.HandSPX.excO C t1) → Q .none ⟨h', g, d, t, os⟩) : wpAny (model prog w) A (call (.ref u) rest) Q E ⟨h, g, d, t, os⟩ := by
  have FB := F.excBase_ValueError
  refine wpAny_call (codeAny_of_tree ?_)
  show wpAny _ A.in1 (callAny (.ref u) ⟨rest, []⟩) _ _ _
  simp only [callAny]
  refine wpAny_bind (wpAny_load hu ?_)
  have mw : (Value.type "method-wrapper" == Value.type "method" || Value.type "method-wrapper" == Value.type "builtin_function_or_method" || Value.type "method-wrapper" == Value.type "method-wrapper") = true := by decide
  simp only [kxs_mw, mw, if_true]
  refine KFB.if_so (by decide) (wpAny_bind (check_bound_init FB.toExcCallFacts hC he rfl (wpAny_bind (wpAny_pure (wpAny_pure ⟨plainId_quiet FB.init.plain _, codeAny_builtin FB.initEntry ?_⟩)))))
  exact exc_init_tree (cls := .ref C) (t0 := t0) (dv := none) (c2 := .none) (c3 := .none) (b4 := .bool false) he hz fun h' k1 k2 _ => hq h' _ k1 k2
end
/-- what stands written of an own exception's class and of its __init__ -/
structure InitF (P : Program) (K : PySem.W.Frag) (C fI : Addr) (qual : Str) (params : Arguments) (body : List Stmt) (scope : Scope) (fd : FuncData) : Prop where
  ex : ∃ (oc ccl cl dV kV doc pm ct : Value) (od cdd cld an : Option Addr) (osl ccs csl : Array (Option Value)) (cda cc : Addr) (vs : Array Value) (file : Str) (tf : Tok) (cdD : ClassData), fd = ksFn "__init__" qual params body scope dV kV doc pm an (.ref cda) ct cc ∧
    K.lookup fI = some ⟨oc, od, .func fd, osl⟩ ∧ PySem.W.codeIn K (.ref cda) qual = true ∧ K.lookup cda = some ⟨ccl, cdd, .fields vs, ccs⟩ ∧ vs[2]? = some (.str file tf) ∧ ((P.main.file : Str) == file) = true ∧
    K.lookup cc = some ⟨cl, cld, .cell (some (.ref C)), csl⟩ ∧ clsIn K C = some cdD ∧ dV = .none
  hsub : mroIn K C (.ref C) = some true
  opq : nsIn K cStatics "thirdparty.any" = some none
  sup : ks_superIn K C C "__init__" = some (some (.builtin "ValueError.__init__"))
  ve : subIn K (.ref C) (.type "ValueError") = some true
  top : (P.main.scope.names.lookup ("super" : Str)).isSome = false
  oex : OexC K C
/-- the context of its body -/
def initCx (P : Program) (w : World) (K : PySem.W.Frag) (mg : Str → Option Value) (base : Heap) (A : Around) (outer : List Env) (s : Shared) (H : Hp) (N : List Str) (qual : Str) (scope : Scope) (f cda cc : Addr) (xe : Value → Shared → Prop) : Cx where
  prog := P
  w := w
  K := K
  mg := mg
  base := base
  A := A.deeper (ksEnv qual scope s.heap.objs.size f (.ref cda) cc)
  N := N
  s_0 := s
  H_0 := H
  env := ksEnv qual scope s.heap.objs.size f (.ref cda) cc
  outer := outer
  stack := ksEnv qual scope s.heap.objs.size f (.ref cda) cc :: outer
  ex := []
  calm := true
  fn := fun _ => false
  pn := []
  xe := xe
/-- its names: the parameters, __class__, super -/
structure InitS (scope : Scope) (N : List Str) : Prop where
  kind : scope.kind = .function
  co : scope.isCoroutine = false
  gen : scope.isGenerator = false
  nocell : ∀ y ∈ scope.names, y.2 ≠ .cell
  free : ∀ y ∈ scope.names, y.2 = .free → y.1 = "__class__"
  cls : scope.names.lookup ("__class__" : Str) = some .free
  sup : scope.names.lookup ("super" : Str) = some .globalImplicit
  par : ∀ x ∈ N, scope.names.lookup x = some .local
  nd : N.Nodup
theorem rev_look {N : List Str} (nd : N.Nodup) : ∀ {us : List Value} {i : Nat} {y : Str} {u : Value}, N[i]? = some y → us[i]? = some u → N.length = us.length → (N.zip us).reverse.lookup y = some u := fun {us i y u} h1 h2 e => by
  have nd2 : ((N.zip us).reverse.map (·.1)).Nodup := by
    rw [List.map_reverse, show (N.zip us).map (·.1) = N from List.map_fst_zip (by omega)]
    exact (List.reverse_perm _).nodup_iff.mpr nd
  have hm : (y, u) ∈ (N.zip us).reverse := by
    rw [List.mem_reverse]
    refine List.mem_of_getElem? (i := i) ?_
    rw [List.getElem?_zip_eq_some]
    exact ⟨h1, h2⟩
  have go : ∀ l : List (Str × Value), (l.map (·.1)).Nodup → (y, u) ∈ l → l.lookup y = some u := fun l => by
    induction l with
    | nil => intro _ h; cases h
    | cons p l ih =>
      obtain ⟨a, b⟩ := p
      intro n h
      rw [List.map_cons] at n
      obtain ⟨n1, n2⟩ := List.nodup_cons.mp n
      rcases List.mem_cons.mp h with z | z
      · cases z; rw [List.lookup_cons, beq_self_eq_true]
      · have ne : (y == a) = false := beq_eq_false_iff_ne.mpr fun q => n1 (List.mem_map.mpr ⟨_, z, q⟩)
        rw [List.lookup_cons, ne]
        exact ih n2 z
  exact go _ nd2 hm
section
variable {P : Program} {w : World} {K : PySem.W.Frag} {mg : Str → Option Value} {base : Heap} {A : Around} {outer : List Env} {s : Shared} {H : Hp} {N : List Str} {qual : Str} {scope : Scope} {f cda cc C : Addr} {xe : Value → Shared → Prop}
theorem init_inv {h₁ : Heap} {tk : Nat} {us : List Value} {vs : List V} {cl : Value} {cld : Option Addr} {csl : Array (Option Value)} (S : InitS scope N) (hd : A.handled = none) (e0 : Env0 P w K mg base A outer s H) (hcc : K.lookup cc = some ⟨cl, cld, .cell (some (.ref C)), csl⟩)
    (r : Vals vs us) (hl : vs.length = N.length) (hns : h₁.Ns s.heap.objs.size fun x => (N.zip us).reverse.lookup x) (kp : ∀ b o, s.heap.get? b = some o → h₁.get? b = some o) :
    L2.Inv (initCx P w K mg base A outer s H N qual scope f cda cc xe) [] (vs.map some) H { s with heap := h₁, toks := tk } := by
  have noA : ∀ b : Addr, b ∉ (initCx P w K mg base A outer s H N qual scope f cda cc xe).ex := fun b z => absurd (show b ∈ ([] : List Addr) from z) (by simp)
  have one : ∀ {x : Str} {c : Addr}, ([("__class__", cc)] : List (Str × Addr)).lookup x = some c → x = "__class__" ∧ c = cc := fun {x c} e => by
    rw [List.lookup_cons] at e
    split at e
    · rename_i q
      cases e
      exact ⟨eq_of_beq q, rfl⟩
    · cases e
  have bcc := e0.mod.kin _ _ hcc
  refine ⟨⟨e0.mod, S.kind, rfl, rfl, Nat.le_refl _, fun x y c h1 h2 => (one h1).1.trans (one h2).1.symm, fun x hx => ?_, fun x c z _ => ?_, fun _ => hd, Around.frames_deeper e0.frames, .inr ⟨rfl, rfl⟩, fun b z => absurd z (noA b), e0.bs, e0.bsz, fun b _ _ => noA b, fun b z => absurd z (noA b), e0.funs, e0.frf⟩,
    rfl, e0.bare, Un.kept kp, ⟨_, hns, fun i y v h1 h2 h3 => ?_⟩, fun x c e => ?_, e0.hok.fresh (Nat.le_refl _), fun x c e => ?_, fun p hp => absurd (show p ∈ ([] : List (Addr × Obj)) ++ [] from hp) (by simp), e0.hok.kept kp, by rw [List.length_map]; exact hl⟩
  · have hx : scope.names.lookup x = some .cell ∨ scope.names.lookup x = some .free := hx
    rcases hx with hx | hx
    · exact absurd rfl (S.nocell _ (PySem.mem_of_lookup hx))
    · have := S.free _ (PySem.mem_of_lookup hx) rfl
      exact ⟨cc, by rw [show x = "__class__" from this]; rfl⟩
  · cases z
  · have h2 : (vs.map some)[i]? = some (some v) := h2
    rw [List.getElem?_map] at h2
    cases q : vs[i]? with
    | none => rw [q] at h2; cases h2
    | some v' =>
      rw [q] at h2
      cases h2
      obtain ⟨u, hu, rv⟩ := r.get q
      have h1 : N[i]? = some y := h1
      exact ⟨u, rv, .inl ⟨S.par y (List.mem_of_getElem? h1), rev_look S.nd h1 hu (by rw [← hl, r.length])⟩⟩
  · obtain ⟨rfl, rfl⟩ := one e
    exact ⟨_, _, kp _ _ (e0.bs _ _ bcc).1, rfl⟩
  · obtain ⟨rfl, rfl⟩ := one e
    exact (e0.bs _ _ bcc).2
/-- a method call on one line, one argument -/
theorem mform {o e : Expr} {name : Str} {apos pos : Pos} {env : Env} (hs : starEach [e] env = (false, eval e env) :: starEach [] env) (hl : (apos.endLine == pos.line) = true) : eval (.Call (.Attribute o name apos) [e] [] pos) env = (do
      let ov ← attributeBase o name env (eval o env)
      standAt apos.atName
      let (f, first) ← holding [ov] (getMethod ov name (plainOf o env))
      callWith pos f first (backTo pos (starEach [e] env)) []) := by
  rw [arm_eval_Call]
  refine congrArg _ (funext fun ov => congrArg _ (funext fun _ => ?_))
  rw [mcall_line (by rw [hs]; rfl) hl]
  rfl
/-- one more pin, one less -/
theorem pin_more {X : Cx} {pins : List (Addr × Obj)} {σ : St} {H1 : Hp} {s1 : Shared} {p : Addr × Obj} (I : L2.Inv X pins σ H1 s1) (h : s1.heap.get? p.1 = some p.2 ∧ H1 p.1 = none ∧ p.1 ≠ X.env.locals ∧ p.1 ∉ X.fs ∧ ∀ v, p.2.data ≠ .cell v) : L2.Inv X (p :: pins) σ H1 s1 :=
  ⟨I.ok, I.os, I.bare, I.base, I.loc, I.cell, I.free, I.freeC, fun q hq => by
    rcases List.mem_append.mp hq with z | z
    · exact I.pin q (List.mem_append_left _ z)
    · rcases List.mem_cons.mp z with rfl | z
      · exact h
      · exact I.pin q (List.mem_append_right _ z), I.hok, I.len⟩
theorem pin_less {X : Cx} {pins : List (Addr × Obj)} {σ : St} {H1 : Hp} {s1 : Shared} {p : Addr × Obj} (I : L2.Inv X (p :: pins) σ H1 s1) : L2.Inv X pins σ H1 s1 :=
  ⟨I.ok, I.os, I.bare, I.base, I.loc, I.cell, I.free, I.freeC, fun q hq => by
    rcases List.mem_append.mp hq with z | z
    · exact I.pin q (List.mem_append_left _ z)
    · exact I.pin q (List.mem_append_right _ (List.mem_cons_of_mem _ z)), I.hok, I.len⟩
/-- super().__init__(e), e a text -/
theorem super_init {fI : Addr} {params : Arguments} {body : List Stmt} {fd : FuncData} {pins : List (Addr × Obj)} {σ : St} {p0 p1 p2 pos spos : Pos} {e : Expr} {te : TE} {x : Addr} {sn : Str} {s1 : Shared} {H1 : Hp} {Q : Flow → Shared → Prop}
    (S : InitS scope N) (IF : InitF P K C fI qual params body scope fd) {oc ccl cl dV kV doc pm ct : Value} {od cdd cld an : Option Addr} {osl ccs csl : Array (Option Value)} {vs : Array Value} {file : Str} {tf : Tok} {cdD : ClassData}
    (efd : fd = ksFn "__init__" qual params body scope dV kV doc pm an (.ref cda) ct cc) (l1 : K.lookup fI = some ⟨oc, od, .func fd, osl⟩) (l2 : K.lookup cda = some ⟨ccl, cdd, .fields vs, ccs⟩) (l3 : vs[2]? = some (.str file tf)) (l4 : ((P.main.file : Str) == file) = true)
    (l5 : K.lookup cc = some ⟨cl, cld, .cell (some (.ref C)), csl⟩) (l6 : clsIn K C = some cdD) (hpar : ∃ ar, (params.posonlyargs ++ params.args).head? = some ar ∧ ar.arg = sn) (hN : N[0]? = some sn) (hsup : mg "super" = none)
    (I : L2.Inv (initCx P w K mg base A outer s H N qual scope fI cda cc xe) pins σ H1 s1) (hs : σ[0]? = some (some (.ref x))) (hx : H1 x = some (exo x C none))
    (he : PE (initCx P w K mg base A outer s H N qual scope fI cda cc xe) e te) (hte : te σ H1 fun _ H2 => H2 = H1) (hst : starEach [e] (ksEnv qual scope s.heap.objs.size fI (.ref cda) cc) = (false, eval e (ksEnv qual scope s.heap.objs.size fI (.ref cda) cc)) :: starEach [] (ksEnv qual scope s.heap.objs.size fI (.ref cda) cc))
    (hsw : swapsWith (.Call (.Attribute (.Call (.Name "super" p0) [] [] p1) "__init__" p2) [e] [] pos) none spos.line (ksEnv qual scope s.heap.objs.size fI (.ref cda) cc) = pure false) {pl : Sem Bool}
    (hm : eval (.Call (.Attribute (.Call (.Name "super" p0) [] [] p1) "__init__" p2) [e] [] pos) (ksEnv qual scope s.heap.objs.size fI (.ref cda) cc) = (do
      let ov ← attributeBase (.Call (.Name "super" p0) [] [] p1) "__init__" (ksEnv qual scope s.heap.objs.size fI (.ref cda) cc) (eval (.Call (.Name "super" p0) [] [] p1) (ksEnv qual scope s.heap.objs.size fI (.ref cda) cc))
      standAt p2.atName
      let (f, first) ← holding [ov] (getMethod ov "__init__" pl)
      callWith pos f first (backTo pos (starEach [e] (ksEnv qual scope s.heap.objs.size fI (.ref cda) cc))) []))
    (hq : ∀ s2, L2.Inv (initCx P w K mg base A outer s H N qual scope fI cda cc xe) pins σ H1 s2 → Q .next s2) :
    _root_.PySem.wpAt (model P w) (A.deeper (ksEnv qual scope s.heap.objs.size fI (.ref cda) cc)) (.func body (ksEnv qual scope s.heap.objs.size fI (.ref cda) cc))
      (exec (.Expr (.Call (.Attribute (.Call (.Name "super" p0) [] [] p1) "__init__" p2) [e] [] pos) spos) (ksEnv qual scope s.heap.objs.size fI (.ref cda) cc)) Q xe s1 := by
  obtain ⟨ar, hp, har⟩ := hpar
  have X1 : K.In s1.heap := I.kIn
  obtain ⟨m, hn, hlk⟩ := id I.loc
  obtain ⟨u, ru, look⟩ := hlk 0 sn (.ref x) hN hs (.inl (S.par sn (List.mem_of_getElem? hN)))
  obtain rfl : u = Value.ref x := ru
  have hself : m sn = some (Value.ref x) := by
    rcases look with ⟨_, z⟩ | ⟨z, _⟩
    · exact z
    · have k : scope.names.lookup sn = some .local := S.par sn (List.mem_of_getElem? hN)
      rcases z with z | z <;> rw [show scope.names.lookup sn = _ from z] at k <;> cases k
  obtain ⟨mb, hb1, hb2⟩ := I.mod.blt
  obtain ⟨oD, hD1, hD2⟩ : ∃ oD, s1.heap.get? C = some oD ∧ oD.data = .cls cdD := by
    unfold clsIn at l6
    split at l6
    · rename_i c d cd' sl ho
      cases l6
      exact ⟨_, X1 _ _ ho, rfl⟩
    · cases l6
  refine ks_wpAt_Expr_any (ks_wpAt_MethodCall ?_ hm) I.quiet hsw
  refine ks_wpAt_super_base (fd := fd) (ar := ar) S.sup S.cls (by decide) rfl (X1 _ _ l1) rfl (by rw [efd]; exact hp) rfl (X1 _ _ l2) rfl l3 l4 IF.top ?_
  refine ks_loadName_global S.kind S.sup (Calls.loadGlobal_builtin (I.mod.glob.keeps I.bk) hsup (hb1.keeps I.bk) ((hb2 _ (by decide)).trans (by rfl : bootBuiltins "super" = some (.type "super"))) ⟨rfl, ?_⟩)
  refine wpAny_loadName_free S.kind S.cls rfl ⟨_, X1 _ _ l5, rfl⟩ ?_
  refine wpAny_loadName_local S.kind (by rw [har]; exact S.par sn (List.mem_of_getElem? hN)) hn (by rw [har]; exact hself) ?_
  obtain ⟨t1, hox⟩ := exo_at I.hok hx
  obtain ⟨hh, g, d, t, os⟩ := s1
  refine ks_wpAny_isType_cls hD1 hD2 ⟨rfl, ?_⟩
  refine ks_wpAny_call_super hD1 hD2 hox rfl (fun c z => by cases z) (looks_mroIn X1 IF.hsub) (fun h' e1 k1 => ?_)
  have I2 : L2.Inv (initCx P w K mg base A outer s H N qual scope fI cda cc xe) pins σ H1 ⟨h', g, d, t, os⟩ := I.kept k1
  have X2 : K.In h' := I2.kIn
  have J2 : InstAt h' x _ C none := ⟨k1 _ _ hox, rfl, rfl, trivial⟩
  have hal : alongIn K "__init__" ((cdD.mro.dropWhile (· != .ref C)).drop 1) = some (some (.builtin "ValueError.__init__")) := by
    have := IF.sup
    unfold ks_superIn at this
    rw [l6] at this
    exact this
  have hmro : Looks (model P w) h' (mroOf (.ref C)) cdD.mro := (looks_clsIn X2 l6).andThen .now
  refine kxs_getMethod kxs_ValueError e1 (looks_opaque X2 IF.opq) hmro rfl X2 hal (J2.type.andThen (looks_subIn X2 IF.ve)) (ks_ne X2 J2 l6) (by decide) ?_
  have I3 : L2.Inv (initCx P w K mg base A outer s H N qual scope fI cda cc xe) pins σ H1 ⟨h'.push (kxs_mw "ValueError.__init__" x), g, d, t + 1, os⟩ := (I2.kept (t' := t + 1) fun b o z => Heap.get?_push_of_some _ z)
  have hu : (h'.push (kxs_mw "ValueError.__init__" x)).get? h'.objs.size = some (kxs_mw "ValueError.__init__" x) := Heap.get?_push_size _ rfl
  have I4 := pin_more (p := (h'.objs.size, kxs_mw "ValueError.__init__" x)) I3 ⟨hu, I2.hok.fresh (Nat.le_refl _), fun z => Nat.ne_of_gt I2.lt z, I2.nofs (Nat.le_refl _), fun v z => by cases z⟩
  refine kxs_callWith (i := "ValueError.__init__") (x := x) (by rw [hst]; rfl) ?_
  rw [hst]
  refine Calls.evalArgs_plain (Calls.spliced_cons (thn (he.run _ _ σ H1 _ I4 hte) fun v s4 ⟨y, H2, I5, ry, eH⟩ => Calls.spliced_nil ?_))
  subst eH
  have hp5 := (I5.pin (h'.objs.size, kxs_mw "ValueError.__init__" x) (List.mem_append_right _ List.mem_cons_self)).1
  refine ⟨hp5, ?_⟩
  obtain ⟨nm, q, N0, bs, bm, sn0, sub, ab, col, dd, k0, kk1, kk2, k3, k5, hC, hbm⟩ := IF.oex.cls
  obtain ⟨t5, hx5⟩ := exo_at I5.hok hx
  obtain ⟨hh5, g5, d5, tk5, os5⟩ := s4
  refine call_mw (I5.kIn _ _ hC) hx5 hp5 (by show 1 ≤ sizeLine; rw [sizeLine_eq]; decide) fun h6 t6 kp6 hx6 => hq _ ?_
  have W := (pin_less I5).write (t' := tk5) (x := x) (e := x) (o := exo x C none) (by rw [hx]; exact True.intro) (.inl rfl) kp6 ⟨_, hx6⟩ (exo_ok hx6)
  have eu : upd H2 x (exo x C none) = H2 := by
    funext b
    by_cases hb : b = x
    · rw [hb, upd_same, hx]
    · rw [upd_ne hb]
  rw [eu] at W
  exact W
/-- the promise: two fields, the first a text -/
def spInit2 (C : Addr) (f1 f2 : Str) : Sp := fun vs H Q _ => ∃ (a : Addr) (z : Str) (v : V), vs = [.ref a, .str z, v] ∧ z.length ≤ 1000 ∧ H a = some (exo a C none) ∧
  ∀ dx, H dx = none → dx ≠ a → Q .non (upd (upd (upd H dx (exd dx [(f1, .str z)])) a (exo a C (some dx))) dx (exd dx [(f2, v), (f1, .str z)]))
theorem init_fn2 {CX : CXT} {k : Nat} {fI : Addr} {fd : FuncData} {params : Arguments} {sn n1 n2 : Str} {msg : Str} {p0 p1 p2 p3 p4 p5 p6 p7 a0 a1 a2 a3 b0 b1 b2 b3 : Pos} {j0 : Nat}
    (S : InitS scope [sn, n1, n2]) (hmsg : msg.length ≤ 1000) (hline : (p2.endLine == p6.line) = true)
    (IF : InitF P K C fI qual params [.Expr (.Call (.Attribute (.Call (.Name "super" p0) [] [] p1) "__init__" p2) [.BinOp (.Constant (.str msg) j0 p3) .Add (.Name n1 p4) p5] [] p6) p7,
      .Assign [.Attribute (.Name sn a0) n1 a1] (.Name n1 a2) a3, .Assign [.Attribute (.Name sn b0) n2 b1] (.Name n2 b2) b3] scope fd) (hpar : ∃ ar, (params.posonlyargs ++ params.args).head? = some ar ∧ ar.arg = sn) (hsup : mg "super" = none)
    (d0 : (n1 == ("__debug__" : Str)) = false) (d1 : (n1 == ("__classdict__" : Str)) = false) (d2 : (n2 == ("__debug__" : Str)) = false) (d3 : (n2 == ("__classdict__" : Str)) = false) (d4 : (sn == ("__debug__" : Str)) = false) (d5 : (sn == ("__classdict__" : Str)) = false)
    (no1 : PySem.W.findIn K (.ref C) n1 = some none) (no2 : PySem.W.findIn K (.ref C) n2 = some none) : FnOk P w K mg base CX (k + 1) fI fd [sn, n1, n2] (spInit2 C n1 n2) := by
  refine ⟨fun vs H Q E h => ?_, fun A outer s H args us vs Q E hr e0 hb rv hs => ?_⟩
  · obtain ⟨a, z, v, rfl, _⟩ := h
    rfl
  obtain ⟨a, z, v, rfl, hz, ha, hq⟩ := hs
  obtain ⟨oc, ccl, cl, dV, kV, doc, pm, ct, od, cdd, cld, an, osl, ccs, csl, cda, cc, fvs, file, tf, cdD, efd, l1, lcd, l2, l3, l4, l5, l6, _⟩ := IF.ex
  have X0 : K.In s.heap := e0.mod.kin.keeps fun b o e => (e0.bs b o e).1
  refine ks_codeAny_call_defAt (fd := fd) (binds := [sn, n1, n2].zip us) hr.depth (X0 _ _ l1) rfl (e0.mod.nolimit.keeps fun b o e => (e0.bs b o e).1) (by rw [efd]; exact codeRec_of X0 lcd) (by rw [efd] <;> rfl) hb (by rw [efd]; exact S.nocell) (by
    rw [efd]
    exact fun y hy => S.par _ (List.of_mem_zip (show (y.1, y.2) ∈ _ from hy)).1) (fun h₁ hns kp => ?_) (by rw [efd]; exact S.co) (by rw [efd]; exact S.gen) (by rw [efd]; exact S.kind)
  have I := init_inv (N := [sn, n1, n2]) (qual := qual) (f := fI) (cda := cda) (cc := cc) (C := C) (xe := fun e s' => wpAny (model P w) (A.deeper (ksEnv qual scope s.heap.objs.size fI (.ref cda) cc)) (leaving (ksEnv qual scope s.heap.objs.size fI (.ref cda) cc) e) (fun _ s'' => CR CX outer P w H s Q E (.error e) s'') (fun e' s'' => CR CX outer P w H s Q E (.error e') s'') s') (tk := s.toks + ([sn, n1, n2].zip us).length) S hr.hd e0 l5 rv rfl hns kp
  subst efd
  let X : Cx := initCx P w K mg base A outer s H [sn, n1, n2] qual scope fI cda cc (fun e s' => wpAny (model P w) (A.deeper (ksEnv qual scope s.heap.objs.size fI (.ref cda) cc)) (leaving (ksEnv qual scope s.heap.objs.size fI (.ref cda) cc) e) (fun _ s'' => CR CX outer P w H s Q E (.error e) s'') (fun e' s'' => CR CX outer P w H s Q E (.error e') s'') s')
  have v0 : ∀ p, PE X (.Name sn p) (tVar 0) := fun p => pe_var rfl (.inl (S.par sn (by simp))) d4 d5
  have v1 : ∀ p, PE X (.Name n1 p) (tVar 1) := fun p => pe_var rfl (.inl (S.par n1 (by simp))) d0 d1
  have v2 : ∀ p, PE X (.Name n2 p) (tVar 2) := fun p => pe_var rfl (.inl (S.par n2 (by simp))) d2 d3
  have rest := pss_cons (ps_ost (f := n1) (p' := a1) (pos := a3) (v0 a0) (v1 a2)) (pss_one (ps_ost (f := n2) (p' := b1) (pos := b3) (v0 b0) (v2 b2)))
  refine ks_wpAt_execs_cons (super_init (te := tOp _ (tC (.str msg)) (tVar 1)) S IF rfl l1 l2 l3 l4 l5 l6 hpar rfl hsup I rfl ha (pe_op op_add_str pe_str (v1 p4)) ?_ rfl rfl (mform rfl hline) (fun s2 I2 => ?_))
  · exact ⟨_, rfl, msg, z, rfl, rfl, by rw [sizeLine_eq]; omega, rfl⟩
  · refine wpAt_of_wpAny (wpAny_mono (rest.run [] s2 _ H { nx := fun _ H' => Q .non H', rt := fun _ _ => False } I2 ?_) (fun fl s' hsp => ?_) (fun e s' h => h))
    · refine ⟨_, rfl, _, rfl, a, C, rfl, IF.oex, no1, .inl ⟨ha, fun dx n ne => ?_⟩⟩
      refine ⟨_, rfl, _, rfl, a, C, rfl, IF.oex, no2, .inr ⟨dx, _, upd_same, by rw [upd_ne ne, upd_same], by simp, hq dx n ne⟩⟩
    · cases fl with
      | next =>
        obtain ⟨σ', H', J, q⟩ := hsp
        exact ⟨.non, H', J.os, J.bare, J.base, J.hok, rfl, q⟩
      | ret u => obtain ⟨_, _, _, _, _, q⟩ := hsp; exact q.elim
      | brk => obtain ⟨_, _, _, q⟩ := hsp; exact q.elim
      | cont => obtain ⟨_, _, _, q⟩ := hsp; exact q.elim
end
end PLS
end

section
set_option Elab.async false
set_option linter.all false
set_option maxRecDepth 100000
set_option maxHeartbeats 4500000
/-! raise X(text, d), X an own exception with two fields -/
namespace PLS
open PySem PySem.Spec PyProof.Rows L2 PySem.W
/-- what is known of such a class -/
structure RaiF (P : Program) (w : World) (K : PySem.W.Frag) (mg : Str → Option Value) (base : Heap) (cl : String) : Prop where
  ex : ∃ (fI : Addr) (fd : FuncData) (ps : List Str) (n1 n2 : String), PL.flds cl = [n1, n2] ∧ PySem.W.findIn K (.ref (He.ga K (Str.ofString cl))) "__init__" = some (some (.ref fI)) ∧ PySem.W.typeIn K (.ref fI) = some (.type "function") ∧ Binds K fd ps [] ∧
    FnOk P w K mg base (L2.CX P w) 1 fI fd ps (spInit2 (He.ga K (Str.ofString cl)) (Str.ofString n1) (Str.ofString n2))
  oex : OexC K (He.ga K (Str.ofString cl))
  glob : mg (Str.ofString cl) = some (.ref (He.ga K (Str.ofString cl)))
section
variable {G : GS} {E : XK} {X : Cx} {p p2 pos : Pos} {a b : Expr}
theorem s_raise2 {cl : String} {x : Str} {es : List Expr} {re : PL.Ev (List PL.D)} (hg : GX G X) (hc : X.calm = true) (tk : Takes X (wx E)) (R : RaiF X.prog X.w X.K X.mg X.base cl) (hr : Room 2 X.A) (hx : x = Str.ofString cl) (hgl : Gl X x) (hdb : (x == ("__debug__" : Str)) = false)
    (ha : PA X (a :: es) (tDs G (wx E) re)) (h1 : starEach (a :: es) X.env = (false, eval a X.env) :: starEach es X.env) (h2 : (backTo pos (starEach es X.env)).any (·.1) = false) :
    PS X (.Raise (some (.Call (.Name x p) (a :: es) [] pos)) none p2) (tS G E fun ρ => (re ρ).bind fun (ds, _) => if PL.excOk cl ds = true then .exc cl ds else .stuck) := by
  subst hx
  obtain ⟨fI, fd, ps, n1, n2, ef, iC, tI, hb, FO⟩ := R.ex
  refine (ps_raise hc tk (pmk_oex R.oex iC tI FO hr hb .nil (fun pins σ H s e s' I ⟨_, _, _, _, _, _, _, _, _, _, _, _, z⟩ => z.elim) hgl R.glob ha hdb h1 h2)).imq fun D σ H h => ?_
  obtain ⟨Z, ρ, I, o⟩ := h
  refine ⟨Z, ρ, I, o.bind.mono fun ds ρ1 o1 vs H1 Z1 s1 rl => ?_⟩
  obtain ⟨hok, o2⟩ := if_ok o1
  have o2 : ∀ d H', Exc G cl H σ ρ ds d H' → wx E (.ref (He.ga G.K (Str.ofString cl))) d σ H' := o2
  unfold PL.excOk at hok
  split at hok
  · rename_i z d o3
    simp only [Bool.and_eq_true, decide_eq_true_eq] at hok
    obtain ⟨⟨hz, hkd⟩, _⟩ := hok
    simp only [GS.RL, RepL] at rl
    obtain ⟨v1, r1, rfl, e1, v2, r2, rfl, e2, rfl⟩ := rl
    simp only [Rep] at e1
    subst e1
    refine ⟨by show 2 ≤ 1000; decide, fun l hl => ⟨l, _, v2, rfl, by rw [str_len]; exact hz, upd_same, fun dx hdx ne => ⟨rfl, dx, _, by rw [upd_ne (Ne.symm ne), upd_same], upd_same, by rwa [upd_ne ne] at hdx, ?_⟩⟩⟩
    have ndx : H1 dx = none := by rwa [upd_ne ne] at hdx
    have at_ : ∀ b, b ≠ l → b ≠ dx → upd (del (upd (upd (upd (upd H1 l (exo l (He.ga X.K (Str.ofString cl)) none)) dx (exd dx [(Str.ofString n1, V.str ⟨z.toArray⟩)])) l (exo l (He.ga X.K (Str.ofString cl)) (some dx))) dx (exd dx [(Str.ofString n2, v2), (Str.ofString n1, V.str ⟨z.toArray⟩)])) l) dx
        (HO.xd [(Str.ofString n2, v2), (Str.ofString n1, V.str ⟨z.toArray⟩)]) b = H1 b := fun b x y => by rw [upd_ne y, del_ne x, upd_ne y, upd_ne x, upd_ne y, upd_ne x]
    generalize hH : upd (del (upd (upd (upd (upd H1 l (exo l (He.ga X.K (Str.ofString cl)) none)) dx (exd dx [(Str.ofString n1, V.str ⟨z.toArray⟩)])) l (exo l (He.ga X.K (Str.ofString cl)) (some dx))) dx (exd dx [(Str.ofString n2, v2), (Str.ofString n1, V.str ⟨z.toArray⟩)])) l) dx
        (HO.xd [(Str.ofString n2, v2), (Str.ofString n1, V.str ⟨z.toArray⟩)]) = H3 at at_
    have adx : H3 dx = some (.xd [(Str.ofString n2, v2), (Str.ofString n1, V.str ⟨z.toArray⟩)]) := by rw [← hH, upd_same]
    have grow : ∀ b u, H1 b = some u → H3 b = some u := fun b u hb => by rw [at_ b (ne_of_none hb hl) (ne_of_none hb ndx)]; exact hb
    have xt : Ext H1 Z1 H3 Z1 := ⟨fun _ h => h, fun b u h _ _ => grow b u h, fun b xs h => grow _ _ h, fun b u k h => grow _ _ h⟩
    have xc : Exc G cl H1 σ ρ1 [.str z, d] (some dx) H3 := by
      refine ⟨fun b u hb _ _ => grow b u hb, fun b hb => ?_, s1.env.tabs.ext grow, .inr ⟨dx, _, Z1, rfl, adx, by rw [ef]; rfl, RepL.cons (r_str (G := G)) (RepL.one (Rep.ext xt _ _ e2)), fun q hq => ?_⟩⟩
      · by_cases x : b = l
        · rw [x]; exact hl
        · by_cases y : b = dx
          · rw [y, adx] at hb; cases hb
          · rwa [at_ b x y] at hb
      · rcases List.mem_cons.mp hq with rfl | hq
        · rfl
        · rw [List.mem_singleton.mp hq]; exact hkd
    have o3 : ∀ d0 H0, Exc G cl H σ ρ [.str z, d] d0 H0 → wx E (.ref (He.ga G.K (Str.ofString cl))) d0 σ H0 := o3
    have fin := o3 (some dx) H3 (xc.back s1)
    rw [hg.k] at fin
    exact fin
  · cases hok
end
end PLS
end

section
set_option Elab.async false
set_option linter.all false
set_option maxRecDepth 100000
set_option maxHeartbeats 4500000
/-! several except clauses, some of them with a name -/
namespace PLS
open PySem PySem.Spec PyProof.Rows L2 PySem.W LamX
/-- the ends behind a clause; its slot, if it has a name -/
def endsA : Option Nat → Ends → Ends
  | none, D => D
  | some i, D => { nx := fun σ H => D.nx (σ.set i none) H, rt := D.rt, bk := fun σ H => D.bk (σ.set i none) H, ct := fun σ H => D.ct (σ.set i none) H }
def sigA : Option Nat → St → Addr → St
  | none, σ, _ => σ
  | some i, σ, a => σ.set i (some (.ref a))
abbrev Cls := Value × Option Nat × (Addr → Value → Option Addr → TS)
def wAll (K : PySem.W.Frag) (D : Ends) : List Cls → WX
  | [] => fun _ _ _ _ => False
  | (c, o, ts) :: r => fun cls d σ H => ∃ b, PySem.W.exmOne K cls c = some b ∧ (b = true → ∀ a, H a = none → (∀ i, o = some i → i < σ.length) → ts a cls d (endsA o D) (sigA o σ a) H) ∧ (b = false → wAll K D r cls d σ H)
inductive HdsA (X : Cx) : List ExceptHandler → List Cls → Prop
  | nil : HdsA X [] []
  | cons {x : Str} {c : Value} {ts : Addr → Value → Option Addr → TS} {b₀ : Stmt} {suite : List Stmt} {np hp : Pos} {hds : List ExceptHandler} {l : List Cls} (hc : Names X x c)
      (hsu : ∀ (a : Addr) (oe : Obj) (cls : Value) (d : Option Addr) (pn : List (Addr × Obj)), Zc cls d oe → (∃ vs, oe.data = .fields vs) → PSs (X.suite a ((a, oe) :: pn)) (b₀ :: suite) (ts a cls d)) (r : HdsA X hds l) :
      HdsA X (.ExceptHandler (some (.Name x np)) none (b₀ :: suite) hp :: hds) ((c, none, ts) :: l)
  | named {x n : Str} {c : Value} {i : Nat} {ts : Addr → Value → Option Addr → TS} {b₀ : Stmt} {suite : List Stmt} {np hp : Pos} {hds : List ExceptHandler} {l : List Cls} (hc : Names X x c) (hi : X.N[i]? = some n) (hl : X.env.kindOf n = some .local)
      (hsu : ∀ (a : Addr) (oe : Obj) (cls : Value) (d : Option Addr) (pn : List (Addr × Obj)), Zc cls d oe → (∃ vs, oe.data = .fields vs) → PSs (X.suite a ((a, oe) :: pn)) (b₀ :: suite) (ts a cls d)) (r : HdsA X hds l) :
      HdsA X (.ExceptHandler (some (.Name x np)) (some n) (b₀ :: suite) hp :: hds) ((c, some i, ts) :: l)
theorem try_all {X : Cx} {body : List Stmt} {h₀ : ExceptHandler} {hds : List ExceptHandler} {l : List Cls} {pos : Pos} {tb : WX → TS} (hs : X.stack = X.env :: X.outer) (hf : X.env.frame = some X.env.locals) (hN : X.N.Nodup)
    (hb : ∀ (W : WX) (pn : List (Addr × Obj)) (xe : Value → Shared → Prop), L2.Takes (X.tr pn xe) W → PassesOwn (model X.prog X.w) X.A X.env xe → PSs (X.tr pn xe) body (tb W)) (hh : HdsA X (h₀ :: hds) l) :
    PS X (.Try body (h₀ :: hds) [] [] pos) (fun D σ H => tb (wAll X.K D l) D σ H) := by
  refine ⟨fun pins s σ H D I h => ?_⟩
  have ok := I.ok
  have fr : X.A.frames = some (X.env :: X.outer) := by rw [ok.frames, hs]
  refine wpAny_Try_except ?_
  have run := (hb (wAll X.K D l) (X.pn ++ pins) (fun e s₁ => wpAny (model X.prog X.w) X.A (noteFrame e X.env) (fun _ s₂ => wpAny (model X.prog X.w) X.A (setFlight e none) (fun _ s₃ =>
    wpAny (model X.prog X.w) X.A (handleBy e X.env (h₀ :: hds)) (SP X pins D) X.xe s₃) X.xe s₂) X.xe s₁) (fun u s' caught => ?_) PassesOwn.looking).run [] s σ H D (I.toTry _) h
  · refine wpAny_mono run (fun f s1 q => ?_) fun e s1 z => z
    cases f with
    | ret u =>
      obtain ⟨v, σ', H', J, r, z⟩ := q
      exact ⟨v, σ', H', J.ofTry ok, r, z⟩
    | next =>
      obtain ⟨σ', H', J, z⟩ := q
      exact wpAny_execs_nil ⟨σ', H', J.ofTry ok, z⟩
    | brk =>
      obtain ⟨σ', H', J, z⟩ := q
      exact ⟨σ', H', J.ofTry ok, z⟩
    | cont =>
      obtain ⟨σ', H', J, z⟩ := q
      exact ⟨σ', H', J.ofTry ok, z⟩
  · obtain ⟨a, B, sI, pins', σ', H', cls, d, rfl, J', nb, up, sky, na, os, ag, w⟩ := caught
    have J := J'.ofTry ok
    rw [show (X.tr (X.pn ++ pins) _).stack = X.env :: X.outer from hs] at sky
    show wpAny (model X.prog X.w) X.A (noteFrame (.ref a) X.env) _ _ _
    refine Sky.land Zc.steady fr hf sky fun h3 fl3 up3 => ?_
    have J3 : L2.Inv X pins σ' H' { s' with heap := h3 } := J.landed nb fl3.1 (up.trans up3) os ag
    obtain ⟨oe3, vs3, he3, hz3, hd3⟩ := fl3.there
    have nfr : a ∉ frs (X.env :: X.outer) := fun hm => by
      obtain ⟨_, o', e', hnf⟩ := fl3.2.2.1.mem hm
      rw [he3] at e'
      cases e'
      exact hnf _ hd3
    have nL : a ≠ X.env.locals := fun z => nfr (List.mem_filterMap.mpr ⟨X.env, List.mem_cons_self, by rw [hf, z]⟩)
    have nF : a ∉ X.fs := fun hm => by
      obtain ⟨e, he, q⟩ := List.mem_filterMap.mp hm
      exact nfr (List.mem_filterMap.mpr ⟨e, List.mem_cons_of_mem _ he, q⟩)
    have S3 := J3.suite he3 hd3 na nL nF
    have LT : PySem.W.Looks (model X.prog X.w) h3 (typeOf (.ref a)) cls := fun A Q E s k q => wpAny_typeOf_ref (k _ _ he3) (by rw [hz3.1]; exact q)
    have test : ∀ {x : Str} {np : Pos} {c : Value} {Q E : Value → Shared → Prop}, Names X x c → Q c { s' with heap := h3 } → wpAny (model X.prog X.w) (X.A.mark (some (.ref a))) (eval (.Name x np) X.env) Q E { s' with heap := h3 } := fun {x np c Q E} hc q => by
      obtain ⟨g1, g2, m | ⟨m, v, nn⟩⟩ := hc
      · exact ld_glob (X := X.suite a ((a, oe3) :: (X.pn ++ pins))) S3 g1 m q g2
      · exact ld_blt (X := X.suite a ((a, oe3) :: (X.pn ++ pins))) S3 g1 m v q nn g2
    have go : ∀ {hs2 : List ExceptHandler} {l2 : List Cls}, HdsA X hs2 l2 → wAll X.K D l2 cls d σ' H' → wpAny (model X.prog X.w) X.A (handleBy (.ref a) X.env hs2) (SP X pins D) X.xe { s' with heap := h3 } := by
      intro hs2 l2 hk
      induction hk with
      | nil => exact fun z => z.elim
      | @cons x c ts b₀ suite np hp hds2 l3 hc hsu r ih =>
        intro w
        obtain ⟨b, e1, yes, no⟩ := w
        refine wpAny_handleBy_cons (codeAny_handlers_test (test hc ((PySem.W.exm_one (M := model X.prog X.w) J3.kIn LT e1).here ?_))) (fun q => by cases q)
        cases b with
        | false => exact ih (no rfl)
        | true =>
          refine codeAny_handlers_suite (HandSPX.lands_againZ fl3 fun h4 fl4 up4 => ?_)
          have J4 : L2.Inv X pins σ' H' { s' with heap := h4 } := J.landed nb fl4.1 ((up.trans up3).trans up4) os ag
          obtain ⟨oe4, vs4, he4, hz4, hd4⟩ := fl4.there
          refine wpAny_mono ((hsu a oe4 cls d (X.pn ++ pins) hz4 ⟨_, hd4⟩).run [] _ _ H' _ (J4.suite he4 hd4 na nL nF) (yes rfl a na fun j e => by cases e)) (fun f s6 q => ?_) fun _ _ z => z.elim
          cases f with
          | ret u =>
            obtain ⟨v, σ6, H6, S6, r6, z⟩ := q
            exact ⟨_, _, _, S6.unsuite ok, r6, z⟩
          | next =>
            obtain ⟨σ6, H6, S6, z⟩ := q
            exact ⟨_, _, S6.unsuite ok, z⟩
          | brk =>
            obtain ⟨σ6, H6, S6, z⟩ := q
            exact ⟨_, _, S6.unsuite ok, z⟩
          | cont =>
            obtain ⟨σ6, H6, S6, z⟩ := q
            exact ⟨_, _, S6.unsuite ok, z⟩
      | @named x n c i ts b₀ suite np hp hds2 l3 hc hi hl hsu r ih =>
        intro w
        obtain ⟨b, e1, yes, no⟩ := w
        refine wpAny_handleBy_cons (codeAny_handlers_test (test hc ((PySem.W.exm_one (M := model X.prog X.w) J3.kIn LT e1).here ?_))) (fun q => by cases q)
        cases b with
        | false => exact ih (no rfl)
        | true =>
          refine codeAny_handlers_suite_as (HandSPX.lands_againZ fl3 fun h4 fl4 up4 => ?_)
          have J4 : L2.Inv X pins σ' H' { s' with heap := h4 } := J.landed nb fl4.1 ((up.trans up3).trans up4) os ag
          obtain ⟨oe4, vs4, he4, hz4, hd4⟩ := fl4.there
          refine store_ok (X := X.suite a ((a, oe4) :: (X.pn ++ pins))) (v := .ref a) (J4.suite he4 hd4 na nL nF) hN hi (.inl hl) rfl (fun s5 S5 => ?_) (.inr hl)
          refine wpAny_mono ((hsu a oe4 cls d (X.pn ++ pins) hz4 ⟨_, hd4⟩).run [] s5 _ H' _ S5 (yes rfl a na fun j e => by cases e; rw [J.len]; exact (List.getElem?_eq_some_iff.mp hi).1)) (fun f s6 q => ?_) fun _ _ z => z.elim
          have fin : ∀ {σ6 : St} {H6 : Hp} {Q : Shared → Prop}, L2.Inv (X.suite a ((a, oe4) :: (X.pn ++ pins))) [] σ6 H6 s6 → (∀ s7, L2.Inv X pins (σ6.set i none) H6 s7 → Q s7) → wpAny (model X.prog X.w) X.A (do bindName X.env n .none; unbindBehindTheSuite X.env n hp) (fun _ s7 => Q s7) X.xe s6 :=
            fun {σ6 H6 Q} S6 hq => gone_ok (S6.unsuite ok) hN hi hl hq
          cases f with
          | ret u =>
            obtain ⟨v, σ6, H6, S6, r6, z⟩ := q
            exact fin S6 fun s7 J7 => ⟨_, _, _, J7, r6, z⟩
          | next =>
            obtain ⟨σ6, H6, S6, z⟩ := q
            exact fin S6 fun s7 J7 => ⟨_, _, J7, z⟩
          | brk =>
            obtain ⟨σ6, H6, S6, z⟩ := q
            exact fin S6 fun s7 J7 => ⟨_, _, J7, z⟩
          | cont =>
            obtain ⟨σ6, H6, S6, z⟩ := q
            exact fin S6 fun s7 J7 => ⟨_, _, J7, z⟩
    exact go hh w
end PLS
end

section
set_option Elab.async false
set_option linter.all false
set_option maxRecDepth 100000
set_option maxHeartbeats 4500000
/-! x(lambda: body), where x tries to call it -/
namespace PLS
open PySem PySem.Spec PyProof.Rows L2 PySem.W LamX
/-- what is handed back for a class of errors -/
def heV : PL.HE → Option V
  | .con (.str z) => some (.str ⟨z.toArray⟩)
  | _ => none
/-- str(x), x an int or None -/
def rStrL : List V → Hp → VK → Prop := fun xs H Q => (xs = [.non] ∧ Q (.str "None") H) ∨ ∃ i, xs = [.int i] ∧ i.natAbs.log2 < 1920 ∧ Q (.str (toString i)) H
theorem cr_strL {X : Cx} : CallR X (.type "str") rStrL := by
  intro pins s σ H xs us Q I r h
  rcases h with ⟨rfl, q⟩ | ⟨i, rfl, hz, q⟩
  · obtain ⟨u, rfl, e⟩ := vals1 r
    cases e
    exact PySem.P.str_of_none ⟨.str _, H, I.tok _, ⟨_, rfl⟩, q⟩
  · obtain ⟨u, rfl, t, rfl⟩ := vals1 r
    exact PySem.P.str_of_int hz ⟨.str _, H, I.tok _, ⟨_, rfl⟩, q⟩
abbrev rAddS : V → V → Hp → VK → Prop := fun x y H Q => ∃ i j, x = .str i ∧ y = .str j ∧ i.length + j.length ≤ sizeLine ∧ Q (.str (i ++ j)) H
abbrev rLowS : V → List V → Hp → VK → Prop := fun x xs H Q => ∃ a, x = .str a ∧ xs = [] ∧ a.length ≤ 5592405 ∧ Q (.str (Txt.lower a)) H
/-- e.f0 + str(e.f1).lower() -/
def tCat (a : Addr) (cls : Value) (d : Option Addr) (C : Addr) (f0 f1 : Str) (k : Nat) : TE := tOp rAddS (tXf a cls d C f0 (tVar k)) (tM0 rLowS (tCB rStrL (tCons (tXf a cls d C f1 (tVar k)) tNil)))
/-- the fields of a class with two -/
def fld2 (c : String) : Str × Str := match PL.flds c with
  | [a, b] => (Str.ofString a, Str.ofString b)
  | _ => ("", "")
/-- what a clause must find, and what then holds of what it hands back -/
def heOk (K : PySem.W.Frag) (Q : VK) (h : String) (cls : Value) (d : Option Addr) (H : Hp) : PL.HE → Prop
  | .con (.str z) => Q (.str ⟨z.toArray⟩) H
  | .cat _ => cls = .ref (He.ga K (Str.ofString h)) ∧ ∃ (dd : Addr) (fs : List (Str × V)) (x : Str) (y : V), d = some dd ∧ H dd = some (.xd fs) ∧ fs.lookup (fld2 h).1 = some (.str x) ∧ fs.lookup (fld2 h).2 = some y ∧ x.length ≤ 1000 ∧
    ((y = .non ∧ Q (.str (x ++ "none")) H) ∨ ∃ n : Nat, n ≤ 9 ∧ y = .int (n : Nat) ∧ Q (.str (x ++ ⟨#[48 + n]⟩)) H)
  | _ => False
def hsp (K : PySem.W.Frag) (Q : VK) : List (String × PL.HE) → XK
  | [] => fun _ _ _ => False
  | (h, e) :: r => fun cls d H => ∃ b, PySem.W.exmOne K cls (.ref (He.ga K (Str.ofString h))) = some b ∧ (b = true → heOk K Q h cls d H e) ∧ (b = false → hsp K Q r cls d H)
def hsR (K : PySem.W.Frag) : List (String × PL.HE) → List Cls
  | [] => []
  | (h, e) :: r => (match e with
    | .cat k => (.ref (He.ga K (Str.ofString h)), some k, fun a cls d => tRet (tCat a cls d (He.ga K (Str.ofString h)) (fld2 h).1 (fld2 h).2 k))
    | e => (.ref (He.ga K (Str.ofString h)), none, fun _ _ _ => tRet (tC ((heV e).getD .non)))) :: hsR K r
theorem low_none : Txt.lower "None" = "none" := by
  rw [lower_ascii (by decide +kernel)]
  decide +kernel
theorem low_digit : ∀ n : Nat, n ≤ 9 → Txt.lower (Str.ofString (toString (n : Int))) = ⟨#[48 + n]⟩ ∧ (Str.ofString (toString (n : Int))).length ≤ 5592405 ∧ (n : Int).natAbs.log2 < 1920 := fun n hn => by
  have all : ∀ m ∈ List.range 10, (∀ c ∈ (Str.ofString (toString (m : Int))).cps.toList, c < 128) ∧ (⟨(Str.ofString (toString (m : Int))).cps.map lo1⟩ : Str) = ⟨#[48 + m]⟩ ∧ (Str.ofString (toString (m : Int))).length ≤ 5592405 ∧ (m : Int).natAbs.log2 < 1920 := by decide +kernel
  obtain ⟨h1, h2, h3, h4⟩ := all n (List.mem_range.mpr (by omega))
  rw [lower_ascii h1]
  exact ⟨h2, h3, h4⟩
theorem hsp_all {K : PySem.W.Frag} {Q : VK} {D : Ends} (hD : D.rt = Q) : ∀ {hs : List (String × PL.HE)} {cls : Value} {d : Option Addr} {σ : St} {H : Hp}, hsp K Q hs cls d H → wAll K D (hsR K hs) cls d σ H
  | [], _, _, _, _, h => h
  | (c, e) :: r, cls, d, σ, H, ⟨b, h1, h2, h3⟩ => by
    have tl : b = false → wAll K D (hsR K r) cls d σ H := fun hb => hsp_all hD (h3 hb)
    cases e with
    | cat k =>
      refine ⟨b, h1, fun hb a na hlt => ?_, tl⟩
      obtain ⟨ec, dd, fs, x, y, ed, hdd, l1, l2, hx, hy⟩ := h2 hb
      have hs : (σ.set k (some (V.ref a)))[k]? = some (some (V.ref a)) := List.getElem?_set_self (hlt k rfl)
      subst hD
      rcases hy with ⟨rfl, q⟩ | ⟨n, hn, rfl, q⟩
      · refine ⟨_, hs, rfl, ec, dd, fs, _, ed, hdd, l1, _, hs, rfl, ec, dd, fs, _, ed, hdd, l2, .inl ⟨rfl, ⟨_, rfl⟩, _, rfl, rfl, by decide, x, _, rfl, rfl, ?_, ?_⟩⟩
        · rw [low_none, sizeLine_eq]; exact Nat.le_trans (Nat.add_le_add_right hx _) (by decide)
        · rw [low_none]; exact q
      · obtain ⟨w1, w2, w3⟩ := low_digit n hn
        refine ⟨_, hs, rfl, ec, dd, fs, _, ed, hdd, l1, _, hs, rfl, ec, dd, fs, _, ed, hdd, l2, .inr ⟨_, rfl, w3, ⟨_, rfl⟩, _, rfl, rfl, w2, x, _, rfl, rfl, ?_, ?_⟩⟩
        · rw [w1, sizeLine_eq]; exact Nat.le_trans (Nat.add_le_add_right hx _) (by show 1000 + 1 ≤ 16777216; decide)
        · rw [w1]; exact q
    | con d0 =>
      refine ⟨b, h1, fun hb a na _ => ?_, tl⟩
      have q := h2 hb
      cases d0 <;> (first | exact q.elim | skip)
      subst hD
      exact q
    | fld n => exact ⟨b, h1, fun hb a na _ => (h2 hb).elim, tl⟩
    | fldOr n d0 => exact ⟨b, h1, fun hb a na _ => (h2 hb).elim, tl⟩
    | tup l => exact ⟨b, h1, fun hb a na _ => (h2 hb).elim, tl⟩
/-- the clauses as they are written -/
def hdB (N : List Str) (sg : Scope) : List (String × PL.HE) → List ExceptHandler → Bool
  | [], [] => true
  | (h, .con (.str z)) :: r, .ExceptHandler (some (.Name e _)) none [.Return (some (.Constant (.str y) _ _)) _] _ :: hs => decide (e = Str.ofString h) && decide (y = ⟨z.toArray⟩) && decide (sg.names.lookup e = some .globalImplicit) && !(e == ("__debug__" : Str)) && hdB N sg r hs
  | (h, .cat k) :: r, .ExceptHandler (some (.Name e _)) (some n) [.Return (some (.BinOp (.Attribute (.Name n1 _) w _) .Add (.Call (.Attribute (.Call (.Name st _) [.Attribute (.Name n2 _) v _] [] _) lo ap) [] [] cp) _)) _] _ :: hs =>
    decide (e = Str.ofString h) && decide ((PL.flds h).length = 2) && decide ((fld2 h).1 ≠ (fld2 h).2) && decide (n1 = n) && decide (n2 = n) && decide (w = (fld2 h).1) && decide (v = (fld2 h).2) && decide (st = ("str" : Str)) && decide (lo = ("lower" : Str)) && (ap.endLine == cp.line) && decide (N[k]? = some n) && decide (sg.names.lookup n = some .local) && !(n == ("__debug__" : Str)) && !(n == ("__classdict__" : Str)) &&
      decide (sg.names.lookup ("str" : Str) = some .globalImplicit) && decide (sg.names.lookup e = some .globalImplicit) && !(e == ("__debug__" : Str)) && hdB N sg r hs
  | _, _ => false
/-- what must be known of a class whose fields are read -/
def catF (K : PySem.W.Frag) (mg : Str → Option Value) (p : String × PL.HE) : Prop := match p.2 with
  | .cat _ => XfC K (He.ga K (Str.ofString p.1)) ∧ PySem.W.findIn K (.ref (He.ga K (Str.ofString p.1))) (fld2 p.1).1 = some none ∧ PySem.W.findIn K (.ref (He.ga K (Str.ofString p.1))) (fld2 p.1).2 = some none ∧ mg "str" = none
  | _ => True
theorem hds_of {C : List String} {X : Cx} {sg : Scope} (hs : X.env.scope = sg) (hm : ∀ h ∈ C, X.mg (Str.ofString h) = some (.ref (He.ga X.K (Str.ofString h)))) : ∀ {l : List (String × PL.HE)} {hds : List ExceptHandler}, (∀ p ∈ l, p.1 ∈ C) → (∀ p ∈ l, catF X.K X.mg p) → hdB X.N sg l hds = true → HdsA X hds (hsR X.K l)
  | [], [], _, _, _ => .nil
  | [], _ :: _, _, _, h => by simp [hdB] at h
  | (c, e) :: r, [], _, _, h => by cases e <;> simp [hdB] at h
  | (c, e) :: r, hd :: hds, hc, hf, h => by
    unfold hdB at h
    split at h
    · cases ‹_ = []›
    · rename_i h0 z r' e' np y j p1 p2 p3 hs' q1 q2
      cases q1
      cases q2
      simp only [Bool.and_eq_true, decide_eq_true_eq, Bool.not_eq_true'] at h
      obtain ⟨⟨⟨⟨rfl, rfl⟩, h3⟩, h4⟩, h5⟩ := h
      refine .cons ⟨?_, h4, .inl (hm _ (hc _ List.mem_cons_self))⟩ (fun a oe cls d pn _ _ => pss_one (ps_ret pe_str)) (hds_of hs hm (fun p hp => hc p (List.mem_cons_of_mem _ hp)) (fun p hp => hf p (List.mem_cons_of_mem _ hp)) h5)
      unfold Gl Env.kindOf
      rw [hs]
      exact h3
    · rename_i h0 k r' e' np n n1 p1 w p2 st p3 n2 p4 v p5 p6 lo ap cp p7 p8 p9 hs' q1 q2
      cases q1
      cases q2
      simp only [Bool.and_eq_true, decide_eq_true_eq, Bool.not_eq_true'] at h
      obtain ⟨⟨⟨⟨⟨⟨⟨⟨⟨⟨⟨⟨⟨⟨⟨⟨⟨rfl, _⟩, _⟩, rfl⟩, rfl⟩, rfl⟩, rfl⟩, rfl⟩, rfl⟩, hl⟩, hN⟩, hn⟩, hd1⟩, hd2⟩, hst⟩, h3⟩, h4⟩, h5⟩ := h
      obtain ⟨f1, f2, f3, f4⟩ := hf _ List.mem_cons_self
      have kn : X.env.kindOf n2 = some .local := by unfold Env.kindOf; rw [hs]; exact hn
      have gs : ∀ {a : Addr} {pn : List (Addr × Obj)}, Gl (X.suite a pn) "str" := fun {a pn} => by
        show X.env.kindOf "str" = some .globalImplicit
        unfold Env.kindOf
        rw [hs]
        exact hst
      refine .named ⟨?_, h4, .inl (hm _ (hc _ List.mem_cons_self))⟩ hN kn (fun a oe cls d pn hz ho => pss_one (ps_ret (pe_op op_add_str (pe_xf f1 f2 hz ho (pe_var hN (.inl kn) hd1 hd2)) (pe_lower (pe_callTy cr_strL gs f4 (by rfl) (pa_cons (pe_xf f1 f3 hz ho (pe_var hN (.inl kn) hd1 hd2)) pa_nil)) rfl hl)))) (hds_of hs hm (fun p hp => hc p (List.mem_cons_of_mem _ hp)) (fun p hp => hf p (List.mem_cons_of_mem _ hp)) h5)
      unfold Gl Env.kindOf
      rw [hs]
      exact h3
    · cases h
/-- a def that tries to call what it is given -/
def finV : PL.D → Option V
  | .str z => some (.str ⟨z.toArray⟩)
  | .non => some .non
  | _ => none
def toldB (t : PL.TDef) (N : List Str) (sg : Scope) (a : Str) : List Stmt → Bool
  | [.Try [.Expr (.Call (.Name b _) [] [] _) _] (h :: hs) [] [] _, .Return (some (.Constant (.str y) _ _)) _] => !t.ret && decide (b = a) && hdB N sg t.hs (h :: hs) && (match t.fin with
    | .str z => decide (y = ⟨z.toArray⟩)
    | _ => false)
  | [.Try [.Return (some (.Call (.Name b _) [] [] _)) _] (h :: hs) [] [] _] => t.ret && decide (b = a) && hdB N sg t.hs (h :: hs)
  | _ => false
/-- what is known of it -/
structure ToldF (K : PySem.W.Frag) (mg : Str → Option Value) (f : String) (t : PL.TDef) : Prop where
  ex : ∃ (fd : FuncData) (pg : Arguments) (bg : List Stmt) (sg : Scope) (kws : List (Str × V)) (a : Str) (Ng : List Str), FunD K (Str.ofString f) (Str.ofString f) pg bg sg [] kws (He.ga K (Str.ofString f)) fd ∧ L2.Binds K fd [a] [] ∧ FnScope Ng [a] sg ∧
    sg.names.lookup a = some .local ∧ (a == ("__debug__" : Str)) = false ∧ (a == ("__classdict__" : Str)) = false ∧ toldB t Ng sg a bg = true
  glob : mg (Str.ofString f) = some (.ref (He.ga K (Str.ofString f)))
  cls : ∀ p ∈ t.hs, mg (Str.ofString p.1) = some (.ref (He.ga K (Str.ofString p.1)))
  cat : ∀ p ∈ t.hs, catF K mg p
  exm : ∀ c ∈ t.cs, ∀ p ∈ t.hs, PySem.W.exmOne K (.ref (He.ga K (Str.ofString c))) (.ref (He.ga K (Str.ofString p.1))) = some (PL.subCls c p.1)
/-- what is known of the lambda's maker -/
structure LamF (G : GS) (X : Cx) (k : Nat) : Prop where
  ex : ∃ (c P : Addr), TabB X.base X.mg c P ∧ X.env.code = .ref c ∧ (P, X.env.qual ++ "<lambda>") ∈ G.T ∧ ∀ p ∈ G.T, p.1 = P → p.2 = X.env.qual ++ "<lambda>"
  room : Room (k + 2) X.A
theorem rep_fin {G : GS} {H : Hp} {Z : Addr → Prop} {d : PL.D} {v : V} (h : finV d = some v) : G.R H Z d v := by
  cases d <;> (first | (cases h; done) | skip)
  · cases h
    simp only [GS.R, Rep]
  · cases h
    simp only [GS.R, Rep]
/-- what a clause may hand back -/
def okHE (p : String × PL.HE) : Prop := (∃ z, p.2 = .con (.str z)) ∨ ((∃ k, p.2 = .cat k) ∧ (PL.flds p.1).length = 2 ∧ (fld2 p.1).1 ≠ (fld2 p.1).2)
theorem str_none : (⟨[110, 111, 110, 101].toArray⟩ : Str) = "none" := by decide
theorem hsp_of {G : GS} {Q : VK} {cl : String} {ps : List PL.D} {dv : PL.D} {d : Option Addr} {H : Hp} {Z : Addr → Prop} : ∀ {hs : List (String × PL.HE)}, (PL.handle hs cl ps).noexc = .ok dv → (∀ p ∈ hs, PySem.W.exmOne G.K (.ref (He.ga G.K (Str.ofString cl))) (.ref (He.ga G.K (Str.ofString p.1))) = some (PL.subCls cl p.1)) →
    (∀ p ∈ hs, okHE p) → RepX G cl H ps d → (∀ v, G.R H Z dv v → Q v H) → hsp G.K Q hs (.ref (He.ga G.K (Str.ofString cl))) d H
  | [], h, _, _, _, _ => by cases h
  | (c, e) :: r, h, hx, hv, rx, q => by
    have e1 := hx _ List.mem_cons_self
    unfold PL.handle at h
    refine ⟨PL.subCls cl c, e1, fun hb => ?_, fun hb => ?_⟩
    rotate_left
    · rw [if_neg (by rw [hb]; exact Bool.false_ne_true)] at h
      exact hsp_of h (fun p hp => hx p (List.mem_cons_of_mem _ hp)) (fun p hp => hv p (List.mem_cons_of_mem _ hp)) rx q
    rw [if_pos hb] at h
    rcases hv (c, e) List.mem_cons_self with ⟨z, ez⟩ | ⟨⟨k, ek⟩, hl, hne⟩
    · have ez : e = .con (.str z) := ez
      subst ez
      have h : (PL.ofO (some (PL.D.str z))).noexc = .ok dv := by simpa [PL.HE.val] using h
      cases h
      exact q _ (r_str (G := G))
    · have ek : e = .cat k := ek
      subst ek
      have ecl : cl = c := by
        unfold PL.subCls at hb
        rw [Bool.or_eq_true] at hb
        rcases hb with hb | hb
        · exact eq_of_beq hb
        · have e3 : c = "DeckError" := eq_of_beq hb
          have hl : (PL.flds c).length = 2 := hl
          rw [e3] at hl
          exact absurd hl (by decide)
      subst ecl
      rcases rx with rfl | ⟨a, fs, Z0, rfl, hfs, hn, rl, hkk⟩
      · simp [PL.HE.val, PL.ofO, PL.Res.noexc] at h
      rcases ps with _ | ⟨px, _ | ⟨y, _ | ⟨pz, pr⟩⟩⟩ <;> (first | (simp [PL.HE.val, PL.ofO, PL.Res.noexc] at h; done) | skip)
      cases px <;> (first | (simp [PL.HE.val, PL.ofO, PL.Res.noexc] at h; done) | skip)
      rename_i x
      have h : (PL.ofO ((PL.lowS y).bind fun z => if x.length ≤ 1000 then some (PL.D.str (x ++ z)) else none)).noexc = .ok dv := by
        unfold PL.HE.val at h
        cases hz : PL.lowS y <;> (dsimp only at h; rw [hz] at h; exact h)
      cases hz : PL.lowS y with
      | none => rw [hz] at h; cases h
      | some z =>
        rw [hz] at h
        by_cases hlen : x.length ≤ 1000
        rotate_left
        · have h : (PL.ofO (if x.length ≤ 1000 then some (PL.D.str (x ++ z)) else none)).noexc = .ok dv := h
          rw [if_neg hlen] at h
          cases h
        have h : (PL.ofO (if x.length ≤ 1000 then some (PL.D.str (x ++ z)) else none)).noexc = .ok dv := h
        rw [if_pos hlen] at h
        cases h
        simp only [GS.RL, RepL] at rl
        obtain ⟨w1, r1, e2, x1, w2, r2, e3, x2, e4⟩ := rl
        simp only [Rep] at x1
        subst e4 e3
        have len2 : fs.reverse.length = 2 := by
          have := congrArg List.length e2
          simpa using this
        obtain ⟨⟨a1, b1⟩, ⟨a2, b2⟩, ef⟩ : ∃ p1 p2, fs.reverse = [p1, p2] := by
          match hr : fs.reverse, len2 with
          | [p1, p2], _ => exact ⟨p1, p2, rfl⟩
        rw [ef] at e2 hn
        simp only [List.map_cons, List.map_nil, List.cons.injEq, and_true] at e2
        obtain ⟨rfl, rfl⟩ := e2
        have hfl : fld2 cl = (a1, a2) := by
          unfold fld2
          match hq : PL.flds cl, hl with
          | [g1, g2], _ =>
            rw [hq] at hn
            simp only [List.map_cons, List.map_nil, List.cons.injEq, and_true] at hn
            rw [hn.1, hn.2]
        have hne : (fld2 cl).1 ≠ (fld2 cl).2 := hne
        rw [hfl] at hne
        have efs : fs = [(a2, b2), (a1, b1)] := by
          have := congrArg List.reverse ef
          rw [List.reverse_reverse] at this
          exact this
        subst efs
        subst x1
        have n1 : (a1 == a2) = false := beq_eq_false_iff_ne.mpr hne
        have n2 : (a2 == a1) = false := beq_eq_false_iff_ne.mpr (Ne.symm hne)
        refine ⟨rfl, a, [(a2, b2), (a1, .str ⟨x.toArray⟩)], ⟨x.toArray⟩, b2, rfl, hfs, by rw [hfl]; simp [List.lookup, n1], by rw [hfl]; simp [List.lookup], by rw [str_len]; exact hlen, ?_⟩
        cases y <;> (first | (cases hz; done) | skip)
        · cases hz
          simp only [Rep] at x2
          refine .inl ⟨x2, ?_⟩
          have := q _ (r_str (G := G) (H := H) (Z := Z))
          rw [← str_app, str_none] at this
          exact this
        · rename_i n
          have hz : (if 0 ≤ n ∧ n ≤ 9 then some [48 + n.toNat] else none) = some z := hz
          by_cases hn9 : 0 ≤ n ∧ n ≤ 9
          · rw [if_pos hn9] at hz
            cases hz
            simp only [Rep] at x2
            refine .inr ⟨n.toNat, by omega, by rw [x2, Int.toNat_of_nonneg hn9.1], ?_⟩
            have := q _ (r_str (G := G) (H := H) (Z := Z))
            rw [← str_app] at this
            exact this
          · rw [if_neg hn9] at hz
            cases hz
theorem hd_ok {N : List Str} {sg : Scope} : ∀ {l : List (String × PL.HE)} {hds : List ExceptHandler}, hdB N sg l hds = true → ∀ p ∈ l, okHE p
  | [], _, _, p, hp => by cases hp
  | (c, e) :: r, [], h, _, _ => by cases e <;> simp [hdB] at h
  | (c, e) :: r, hd :: hds, h, p, hp => by
    unfold hdB at h
    split at h
    · cases ‹_ = []›
    · rename_i h0 z r' e' np y j p1 p2 p3 hs' q1 q2
      cases q1
      cases q2
      rw [Bool.and_eq_true] at h
      rcases List.mem_cons.mp hp with e2 | e2
      · rw [e2]; exact .inl ⟨_, rfl⟩
      · exact hd_ok h.2 p e2
    · rename_i h0 k r' e' np n n1 p1 w p2 st p3 n2 p4 v p5 p6 lo ap cp p7 p8 p9 hs' q1 q2
      cases q1
      cases q2
      simp only [Bool.and_eq_true, decide_eq_true_eq] at h
      rcases List.mem_cons.mp hp with e2 | e2
      · rw [e2]; exact .inr ⟨⟨k, rfl⟩, h.1.1.1.1.1.1.1.1.1.1.1.1.1.1.1.1.2, h.1.1.1.1.1.1.1.1.1.1.1.1.1.1.1.2⟩
      · exact hd_ok h.2 p e2
    · cases h
theorem se_told {G : GS} {X : Cx} {W : WX} {f : String} {t : PL.TDef} {k : Nat} {rb : PL.Ev PL.AV} {params : Arguments} {body : Expr} {scope : Scope} {p lpos pos : Pos} (hg : GX G X) (TF : ToldF X.K X.mg f t) (LF : LamF G X k) (hgl : Gl X (Str.ofString f)) (hdb : (Str.ofString f == ("__debug__" : Str)) = false)
    (L : LamS X.env.scope scope) (hdef : defaultsOf params X.env = ([], [])) (hbind : ∀ (q : Str) (cl : List (Str × Addr)) (pm cv ctv : Value), bindArgs (PySem.W.kla_fn "<lambda>" q params body scope cl pm cv ctv) ⟨[], []⟩ = pure [])
    (hbody : ∀ (A : Around) (outer : List Env) (s : Shared) (H : Hp) (E : XK) (f c' : Addr), Room k (A.deeper (lamEnv X scope s.heap.objs.size f c')) → PE (lamCx X A outer s H E scope f c') body (tE G (wx E) rb)) :
    PE X (.Call (.Name (Str.ofString f) p) [.Lambda params body scope lpos] [] pos) (tE G W fun ρ => (PL.toldR t (PL.evD rb (PL.hide ρ))).bind fun d => .ok (.v d, ρ)) := by
  refine ⟨fun pins s σ H Q I h => ?_⟩
  obtain ⟨Z, ρ, J, o⟩ := h
  dsimp only at o
  obtain ⟨fd, pg, bg, sg, kws, a, Ng, FD, hb, Sg, hva, hd, hcd, tb⟩ := TF.ex
  obtain ⟨oc, od, dV, kV, doc, pm, an, cdv, ct, osl, rfl, lk, hcg, hDV, hKV⟩ := FD.ex
  obtain ⟨c, P, TB, hcode, hmT, hu⟩ := LF.ex
  refine wpAny_Call_Name_kw (ld_glob I hgl TF.glob ?_ hdb)
  refine PySem.W.callWith_K (h₀ := X.base) I.ok.mod.kin FD.kp ?_ (by rfl) (by rfl)
  show wpAny _ _ (spliced ((false, eval (.Lambda params body scope lpos) X.env) :: backTo pos (starEach [] X.env))) _ _ s
  refine Calls.spliced_cons (lam_made I TB rfl hcode hmT hu J.tabs hdef (L.has I.ok) fun f1 c1 pm1 ctv H1 s1 I1 eN live T1 hf hfn hfr hco => ?_)
  refine Calls.spliced_nil ⟨I1.kIn, ?_⟩
  have S1 : Step G H Z σ ρ H1 Z σ ρ := J.growN eN live T1
  have hNg : Ng[0]? = some a := by
    have e := Sg.pre
    cases Ng with
    | nil => cases e
    | cons y ys =>
      rw [show ([a] : List Str).length = 1 from rfl, List.take_succ_cons, List.take_zero] at e
      cases e
      rfl
  have hr := LF.room
  -- what the body is to reach
  have core : ∀ Q1 : VK, (∀ v H' Z', Step G H Z σ ρ H' Z' σ ρ → (∀ d, PL.evD rb (PL.hide ρ) = .ok d → G.R H' Z' d.1 v → Q1 v H')) →
      (∀ cl ps d H', PL.evD rb (PL.hide ρ) = .exc cl ps → Exc G cl H1 σ (PL.hide ρ) ps d H' → hsp X.K Q t.hs (.ref (He.ga G.K (Str.ofString cl))) d H') → PL.evD rb (PL.hide ρ) ≠ .stuck → tD G (wx (hsp X.K Q t.hs)) (PL.evD rb) σ H1 Q1 := fun Q1 h1 h2 h3 => by
    refine ⟨Z, PL.hide ρ, S1.env.hide, ?_⟩
    cases q : PL.evD rb (PL.hide ρ) with
    | ok x =>
      obtain ⟨d, ρ'⟩ := x
      exact fun v H' Z' s2 r => h1 v H' Z' (S1.trans (Step.unhide S1.env ⟨s2.env, s2.zz, s2.zn, s2.keep, s2.own, s2.live, s2.fix⟩)) _ q r
    | exc cl ps => exact fun d H' e => h2 cl ps d H' q e
    | stuck => exact absurd q h3
  have ne : PL.evD rb (PL.hide ρ) ≠ .stuck := fun q => by rw [q] at o; exact o
  have hexc : ∀ cl ps d H', (∀ p ∈ t.hs, okHE p) → PL.evD rb (PL.hide ρ) = .exc cl ps → Exc G cl H1 σ (PL.hide ρ) ps d H' → hsp X.K Q t.hs (.ref (He.ga G.K (Str.ofString cl))) d H' := fun cl ps d H' hv q e => by
    rw [q] at o
    unfold PL.toldR at o
    dsimp only at o
    split at o
    · rename_i hc
      cases q2 : (PL.handle t.hs cl ps).noexc with
      | ok dv =>
        rw [q2] at o
        have o : ∀ v H' Z', Step G H Z σ ρ H' Z' σ ρ → RepA G H H' Z' σ ρ (.v dv) v → Q v H' := o
        rw [← hg.k]
        have s2 : Step G H1 Z σ (PL.hide ρ) H' Z σ (PL.hide ρ) := S1.env.hide.growN (fun b u hb n => e.keep b u hb own_hide n) e.live e.tabs
        exact hsp_of (G := G) (Z := Z) q2 (fun p hp => by rw [hg.k]; exact TF.exm cl hc p hp) hv e.pay fun v r => o v H' Z (S1.trans (Step.unhide S1.env s2)) r
      | exc c2 ps2 =>
        unfold PL.Res.noexc at q2
        split at q2 <;> cases q2
      | stuck => rw [q2] at o; exact o.elim
    · exact o.elim
  have rc : codeAny (model X.prog X.w) X.A (.call (.ref (He.ga X.K (Str.ofString f))) ⟨[.ref f1], []⟩) (CR C8.CX0 X.stack X.prog X.w H1 s1 Q C8.E0) s1 := by
    refine run_ofS (N := Ng) (ps := [a]) (us := [.ref f1]) (vs := [.ref f1]) lk hcg Sg hr I1.env0 (hb s1 [.ref f1] I1.kIn rfl) (.cons rfl .nil) rfl fun hr' => ?_
    have act := fun (W : WX) (pn : List (Addr × Obj)) (xe : Value → Shared → Prop) (E : XK) (p1 p2 : Pos) (tk : Takes ((cxOf C8.CX0 X.prog X.w X.K X.mg X.base Ng (Str.ofString f) sg (He.ga X.K (Str.ofString f)) cdv X.A X.stack s1 H1 C8.E0).tr pn xe) W) (hW : ∀ cls d σ' H', E cls d H' → W cls d σ' H') => pe_act (CXg := C8.CX0) (Eg := C8.E0) (Ng := Ng) (qg := Str.ofString f) (sg := sg) (g := He.ga X.K (Str.ofString f)) (cdg := cdv) (pn := pn) (xe := xe) (W := W) (E := E) (p1 := p1) (p2 := p2) (i := 0) (a := a) I1 L hf hfn hfr (hbind _ _ _ _ _) tk hW hr'
      (fun A outer s H hr2 => se_d (hbody A outer s H E f1 c1 hr2)) hNg (.inl hva) hd hcd
    let X0 : Cx := (cxOf C8.CX0 X.prog X.w X.K X.mg X.base Ng (Str.ofString f) sg (He.ga X.K (Str.ofString f)) cdv X.A X.stack s1 H1 C8.E0).nox
    have h0 : (L2.start Ng [V.ref f1])[0]? = some (some (V.ref f1)) := rfl
    unfold toldB at tb
    split at tb
    · rename_i b p1 p2 p3 h hs p4 y j p5 p6
      simp only [Bool.and_eq_true, decide_eq_true_eq, Bool.not_eq_true'] at tb
      obtain ⟨⟨⟨tr, rfl⟩, hh⟩, hfin⟩ := tb
      have HD : HdsA X0 (h :: hs) (hsR X.K t.hs) := hds_of (X := X0) (C := t.hs.map (·.1)) rfl (fun c hc => by obtain ⟨p, hp, rfl⟩ := List.mem_map.mp hc; exact TF.cls p hp) (fun p hp => List.mem_map.mpr ⟨p, hp, rfl⟩) TF.cat hh
      have fin : ∃ v, finV t.fin = some v ∧ v = .str y := by
        split at hfin
        · rename_i z ez
          rw [ez]
          exact ⟨_, rfl, by rw [of_decide_eq_true hfin]⟩
        · cases hfin
      obtain ⟨fv, ef, rfl⟩ := fin
      refine ⟨_, (pss_cons (try_all (X := X0) (tb := fun W D σ' H' => ∃ Ech : XK, (∀ cls d σ' H', Ech cls d H' → W cls d σ' H') ∧ σ'[0]? = some (some (.ref f1)) ∧ H' c1 = some (CodeO c1 (X.env.qual ++ "<lambda>")) ∧ tD G (wx Ech) (PL.evD rb) σ H' fun _ H2 => D.nx σ' H2) rfl rfl Sg.nd (fun W pn xe tk _ => ?_) HD) (pss_one (ps_ret pe_str))).nox, ?_⟩
      · refine ⟨fun pins s' σ' H' D I' h' => ?_⟩
        obtain ⟨Ech, hW, a1, a2, a3⟩ := h'
        exact (pss_one (ps_expr (act W pn xe Ech _ _ tk hW))).run pins s' σ' H' D I' ⟨a1, a2, a3⟩
      · refine ⟨hsp X.K Q t.hs, fun cls d σ' H' z => hsp_all rfl z, h0, hco, core _ (fun v H' Z' s2 d q r => ?_) (fun cl ps d H' q e => hexc cl ps d H' (hd_ok hh) q e) ne⟩
        show Q (.str y) H'
        rw [q] at o
        unfold PL.toldR at o
        rw [tr] at o
        exact o _ H' Z' s2 (rep_fin ef)
    · rename_i b p1 p2 p3 h hs p4
      simp only [Bool.and_eq_true, decide_eq_true_eq] at tb
      obtain ⟨⟨tr, rfl⟩, hh⟩ := tb
      have HD : HdsA X0 (h :: hs) (hsR X.K t.hs) := hds_of (X := X0) (C := t.hs.map (·.1)) rfl (fun c hc => by obtain ⟨p, hp, rfl⟩ := List.mem_map.mp hc; exact TF.cls p hp) (fun p hp => List.mem_map.mpr ⟨p, hp, rfl⟩) TF.cat hh
      refine ⟨_, (pss_one (try_all (X := X0) (tb := fun W D σ' H' => ∃ Ech : XK, (∀ cls d σ' H', Ech cls d H' → W cls d σ' H') ∧ σ'[0]? = some (some (.ref f1)) ∧ H' c1 = some (CodeO c1 (X.env.qual ++ "<lambda>")) ∧ tD G (wx Ech) (PL.evD rb) σ H' D.rt) rfl rfl Sg.nd (fun W pn xe tk _ => ?_) HD)).nox, ?_⟩
      · refine ⟨fun pins s' σ' H' D I' h' => ?_⟩
        obtain ⟨Ech, hW, a1, a2, a3⟩ := h'
        exact (pss_one (ps_ret (act W pn xe Ech _ _ tk hW))).run pins s' σ' H' D I' ⟨a1, a2, a3⟩
      · refine ⟨hsp X.K Q t.hs, fun cls d σ' H' z => hsp_all rfl z, h0, hco, core _ (fun v H' Z' s2 d q r => ?_) (fun cl ps d H' q e => hexc cl ps d H' (hd_ok hh) q e) ne⟩
        rw [q] at o
        unfold PL.toldR at o
        rw [tr] at o
        exact o _ H' Z' s2 r
    · cases tb
  refine wpAny_call (codeAny_mono rc fun r s2 hq => ?_)
  cases r with
  | error e => exact (show False from hq).elim
  | ok fl =>
    cases fl with
    | ret u => exact I1.after hq
    | next => exact False.elim hq
    | brk => exact False.elim hq
    | cont => exact False.elim hq
end PLS
end

section
set_option Elab.async false
set_option linter.all false
set_option maxRecDepth 100000
set_option maxHeartbeats 4500000
/-! the checker: the interpreter's syntax against the row's -/
namespace PLS
open PySem PySem.Spec PyProof.Rows L2 PySem.W
/-- what stands still: names by slots, the scope, which cells may be stored, the lent slots, the module -/
structure SE where
  N : List Str
  sc : Scope
  st : Str → Bool
  IO : List Nat
  con : List (String × Int)
  fns : List String
  blt : List Str
  io : String → Option (List Bool)
  cls : List String
  lm : Bool
  tl : List String
  xcls : List String
structure XF (G : GS) (E : XK) (S : SE) (X : Cx) (c : PL.Ctx) : Prop where
  gx : GX G X
  calm : X.calm = true
  nd : S.N.Nodup
  N : X.N = S.N
  sc : X.env.scope = S.sc
  st : ∀ x, S.st x = true → X.fn x = true
  io : ∀ i, i ∈ G.IO → i ∈ S.IO
  con : ∀ x i, S.con.lookup x = some i → ∃ t, X.mg (Str.ofString x) = some (.int i t)
  fnv : ∀ x ∈ S.fns, X.mg (Str.ofString x) = some (.ref (He.ga X.K (Str.ofString x)))
  blt : ∀ x ∈ S.blt, X.mg x = none
  cio : c.io = S.io
  call : ∃ k : Nat, Room k X.A ∧ (S.lm = true → LamF G X k) ∧ ∀ f bs, S.io f = some bs → ∃ (fd : FuncData) (ps : List Str) (G' : GS), G.re G' ∧ FnOk X.prog X.w X.K X.mg X.base (L2.CX X.prog X.w) k (He.ga X.K (Str.ofString f)) fd ps (spF G' (c.call f)) ∧
    X.mg (Str.ofString f) = some (.ref (He.ga X.K (Str.ofString f))) ∧ PySem.W.keepIn X.K (.ref (He.ga X.K (Str.ofString f))) = true ∧ Binds X.K fd ps []
  told : ∀ f t, c.told f = some t → ToldF X.K X.mg f t
  px : Passes (L2.CX X.prog X.w) X E
/-- in a lambda's body -/
def SE.lam (S : SE) (scope : Scope) : SE := { S with sc := scope, st := fun _ => false, lm := false }
/-- no parameter -/
def noPar : Arguments → Bool
  | ⟨[], [], none, [], [], none, []⟩ => true
  | _ => false
def SE.blk (S : SE) (scope : Scope) : SE := { S with sc := relS scope S.sc, st := fun x => scope.names.lookup x == some .cell }
def notDbg (x : Str) : Bool := !(x == ("__debug__" : Str)) && !(x == ("__classdict__" : Str)) && !decide (x = ("__name__" : Str))
def nameB (S : SE) (i : Nat) (x : Str) : Bool := decide (S.N[i]? = some x) && (match S.sc.names.lookup x with
  | some .local => true
  | some .cell => true
  | some .free => true
  | _ => false) && notDbg x
def storeB (S : SE) (i : Nat) (x : Str) : Bool := decide (S.N[i]? = some x) && (match S.sc.names.lookup x with
  | some .local => true
  | some .cell => S.st x
  | _ => false) && !S.IO.contains i
def glB (S : SE) (x : Str) : Bool := decide (S.sc.names.lookup x = some .globalImplicit) && notDbg x
def gbB (S : SE) (x : Str) : Bool := glB S x && decide (x ∈ S.blt)
def conB : PL.D → Const → Bool
  | .non, .none => true
  | .bl b, .bool b' => b == b'
  | .int i, .int j => decide (i = j)
  | .str x, .str y => decide (y = ⟨x.toArray⟩)
  | _, _ => false
def b1B : PL.B1 → Str → Bool
  | .len, x => decide (x = ("len" : Str))
  | .tuple, x => decide (x = ("tuple" : Str))
  | .list, x => decide (x = ("list" : Str))
  | .dict, x => decide (x = ("dict" : Str))
  | .all, x => decide (x = ("all" : Str))
  | .int, x => decide (x = ("int" : Str))
  | .abs, x => decide (x = ("abs" : Str))
  | .sorted, x => decide (x = ("sorted" : Str))
  | _, _ => false
def isName : Expr → Bool
  | .Name .. => true
  | _ => false
def isiB (S : SE) (k : PL.Kind) : Expr → Bool
  | .Name n _ => (match kindN k with
    | some s => decide (n = Str.ofString s) && gbB S n
    | none => false)
  | .Tuple [.Name n _, .Name m _] _ _ => decide (k = .tuplist) && decide (n = ("tuple" : Str)) && gbB S n && decide (m = ("list" : Str)) && gbB S m
  | _ => false
def okT : Expr → Bool
  | .IfExp .. => false
  | _ => true
def chkTg (S : SE) : PL.Tg → Expr → Bool
  | .one i, .Name x _ => storeB S i x
  | .many is, .Tuple es _ _ => decide (es.length = is.length) && (is.zip es).all fun p => match p.2 with
    | .Name x _ => storeB S p.1 x
    | _ => false
  | _, _ => false
def methB (o : Expr) (ap cp : Pos) (y : Expr) (kws : List Keyword) : Bool := kws.isEmpty && isName o && (ap.endLine == cp.line) && noStar y
def ownN (S : SE) (own : List Nat) : List (Str × Nat) := own.map fun i => (S.N.getD i Str.empty, i)
mutual
def chkE (S : SE) : PL.E → Expr → Bool
  | .var i, .Name x _ => nameB S i x
  | .con d, .Constant k _ _ => conB d k
  | .glo g i, .Name x _ => decide (x = Str.ofString g) && glB S x && decide (S.con.lookup g = some i)
  | .fnv g, .Name x _ => decide (x = Str.ofString g) && glB S x && decide (g ∈ S.fns)
  | .bin op a b, .BinOp l o r _ => decide (o = bop op) && chkE S a l && chkE S b r
  | .lrep es k, .BinOp (.List xs _) o r _ => decide (o = .Mult) && chkEs S es xs && chkE S k r
  | .not a, .UnaryOp o x _ => decide (o = .Not) && chkE S a x && okT x
  | .and a b, .BoolOp o (x :: y :: rest) p => decide (o = .And) && chkE S a x && okT x && (match rest with
    | [] => chkE S b y && okT y
    | z :: zs => chkE S b (.BoolOp .And (y :: z :: zs) p))
  | .or a b, .BoolOp o (x :: y :: rest) p => decide (o = .Or) && chkE S a x && okT x && (match rest with
    | [] => chkE S b y && okT y
    | z :: zs => chkE S b (.BoolOp .Or (y :: z :: zs) p))
  | .cmp op a b, .Compare l [o] [r] _ => decide (o = cop op) && chkE S a l && chkE S b r && noSet r
  | .chain op op' a b c, .Compare l [o, o'] [m, r] _ => decide (o = cop op) && decide (o' = cop op') && chkE S a l && chkE S b m && chkE S c r && noSet r
  | .ite t a b, .IfExp x y z _ => chkE S t x && okT x && chkE S a y && chkE S b z
  | .tup es, .Tuple xs _ _ => chkEs S es xs
  | .lst es, .List xs _ => chkEs S es xs
  | .sub a i, .Subscript l r _ => chkE S a l && chkE S i r && noSlice r
  | .slice a lo hi, .Subscript l (.Slice lo' hi' s _) _ => s.isNone && chkE S a l && chkO S lo lo' && chkO S hi hi'
  | .comp own tg src cnd elt, .ListComp x [⟨tgE, iter, ifs, as⟩] scope _ => decide (as = 0) && blkC S.N S.sc scope (ownN S own) && own.all (fun i => !S.IO.contains i) && (tgs tg).all (fun i => own.contains i) && chkSrc S src iter && noSet iter &&
      chkTg (S.blk scope) tg tgE && chkB (S.blk scope) cnd ifs && chkE (S.blk scope) elt x
  | .comp2 own tg src tg1 src1 cnd elt, .ListComp x [⟨tgE, iter, ifs, as⟩, ⟨tgE1, iter1, ifs1, as1⟩] scope _ => decide (as = 0) && decide (as1 = 0) && ifs.isEmpty && blkC S.N S.sc scope (ownN S own) && own.all (fun i => !S.IO.contains i) && (tgs tg).all (fun i => own.contains i) && (tgs tg1).all (fun i => own.contains i) && chkSrc S src iter && noSet iter &&
      chkTg (S.blk scope) tg tgE && chkSrc (S.blk scope) src1 iter1 && noSet iter1 && chkTg (S.blk scope) tg1 tgE1 && chkB (S.blk scope) cnd ifs1 && chkE (S.blk scope) elt x
  | .lenset a, .Call (.Name x _) [.Call (.Name y _) [z] kws2 _] kws _ => kws.isEmpty && kws2.isEmpty && decide (x = ("len" : Str)) && gbB S x && decide (y = ("set" : Str)) && gbB S y && noStar z && chkE S a z
  | .call f args, .Call (.Name x _) (y :: ys) kws _ => kws.isEmpty && decide (x = Str.ofString f) && glB S x && noStar y && ys.all noStar && (match S.io f with
    | some bs => chkAs S bs args (y :: ys)
    | none => false)
  | .callv i args, .Call (.Name x _) (y :: ys) kws _ => kws.isEmpty && nameB S i x && noStar y && ys.all noStar && chkAs S (List.replicate args.len false) args (y :: ys)
  | .told f body, .Call (.Name x _) [.Lambda params y scope _] kws _ => kws.isEmpty && decide (x = Str.ofString f) && glB S x && S.lm && S.tl.contains f && LamX.lamSB S.sc scope && noPar params && chkE (S.lam scope) body y
  | .b1 op a, .Call (.Name x _) [y] kws _ => kws.isEmpty && b1B op x && gbB S x && noStar y && chkE S a y
  | .min2 a b, .Call (.Name x _) [l, r] kws _ => kws.isEmpty && decide (x = ("min" : Str)) && gbB S x && noStar l && noStar r && chkE S a l && chkE S b r
  | .isi k a, .Call (.Name x _) [l, n] kws _ => kws.isEmpty && decide (x = ("isinstance" : Str)) && gbB S x && noStar l && chkE S a l && isiB S k n
  | .lrange a, .Call (.Name x _) [.Call (.Name y _) [z] kws2 _] kws _ => kws.isEmpty && kws2.isEmpty && decide (x = ("list" : Str)) && gbB S x && decide (y = ("range" : Str)) && gbB S y && noStar z && chkE S a z
  | .trange a, .Call (.Name x _) [.Call (.Name y _) [z] kws2 _] kws _ => kws.isEmpty && kws2.isEmpty && decide (x = ("tuple" : Str)) && gbB S x && decide (y = ("range" : Str)) && gbB S y && noStar z && chkE S a z
  | .append a x, .Call (.Attribute o m ap) [y] kws cp => decide (m = ("append" : Str)) && methB o ap cp y kws && chkE S a o && chkE S x y
  | .extend a x, .Call (.Attribute o m ap) [y] kws cp => decide (m = ("extend" : Str)) && methB o ap cp y kws && chkE S a o && chkE S x y
  | .popi a x, .Call (.Attribute o m ap) [y] kws cp => decide (m = ("pop" : Str)) && methB o ap cp y kws && chkE S a o && chkE S x y
  | _, _ => false
def chkEs (S : SE) : PL.Es → List Expr → Bool
  | .nil, [] => true
  | .cons e es, x :: xs => noStar x && chkE S e x && chkEs S es xs
  | .star e es, .Starred x _ :: xs => chkE S e x && chkEs S es xs
  | _, _ => false
def chkAs (S : SE) : List Bool → PL.Es → List Expr → Bool
  | [], .nil, [] => true
  | _ :: bs, .cons e es, x :: xs => noStar x && chkE S e x && chkAs S bs es xs
  | _, _, _ => false
def chkO (S : SE) : PL.Oe → Option Expr → Bool
  | .none, none => true
  | .some e, some x => chkE S e x
  | _, _ => false
def chkB (S : SE) : PL.Oe → List Expr → Bool
  | .none, [] => true
  | .some e, [x] => chkE S e x && okT x
  | _, _ => false
def chkSrc (S : SE) : PL.Src → Expr → Bool
  | .e a, x => chkE S a x
  | .rng1 a, .Call (.Name x _) [y] kws _ => kws.isEmpty && decide (x = ("range" : Str)) && gbB S x && noStar y && chkE S a y
  | .rng2 a b, .Call (.Name x _) [y, z] kws _ => kws.isEmpty && decide (x = ("range" : Str)) && gbB S x && noStar y && noStar z && chkE S a y && chkE S b z
  | _, _ => false
end
end PLS
end

section
set_option Elab.async false
set_option linter.all false
set_option maxRecDepth 100000
set_option maxHeartbeats 8000000
/-! the checker is sound -/
namespace PLS
open PySem PySem.Spec PyProof.Rows L2 PySem.W
section
variable {G : GS} {c : PL.Ctx}
theorem nb_of {S : SE} {i : Nat} {x : Str} {X : Cx} {E : XK} (F : XF G E S X c) {p : Pos} (h : nameB S i x = true) : PE X (.Name x p) (tVar i) := by
  unfold nameB notDbg at h
  simp only [Bool.and_eq_true, decide_eq_true_eq, Bool.not_eq_true', decide_eq_false_iff_not] at h
  obtain ⟨⟨h1, h2⟩, ⟨h3, h4⟩, _⟩ := h
  refine pe_var (by rw [F.N]; exact h1) ?_ h3 h4
  unfold Vis
  rw [F.sc]
  split at h2
  · rename_i e; exact .inl e
  · rename_i e; exact .inr (.inl e)
  · rename_i e; exact .inr (.inr e)
  · cases h2
theorem gl_of {S : SE} {x : Str} {X : Cx} {E : XK} (F : XF G E S X c) (h : glB S x = true) : Gl X x ∧ (x == ("__debug__" : Str)) = false ∧ x ≠ "__name__" := by
  unfold glB notDbg at h
  simp only [Bool.and_eq_true, decide_eq_true_eq, Bool.not_eq_true', decide_eq_false_iff_not] at h
  obtain ⟨h1, ⟨h3, h4⟩, h5⟩ := h
  refine ⟨?_, h3, h5⟩
  unfold Gl Env.kindOf
  rw [F.sc]
  exact h1
theorem gb_of {S : SE} {x : Str} {X : Cx} {E : XK} (F : XF G E S X c) (h : gbB S x = true) : Gl X x ∧ X.mg x = none ∧ (x == ("__debug__" : Str)) = false ∧ x ≠ "__name__" := by
  unfold gbB at h
  replace h := (Bool.and_eq_true ..).mp h; rw [decide_eq_true_eq] at h
  obtain ⟨h1, h2, h3⟩ := gl_of F h.1
  exact ⟨h1, F.blt x h.2, h2, h3⟩
theorem con_of {d : PL.D} {k : Const} {X : Cx} {j : Nat} {p : Pos} (h : conB d k = true) : ∃ v, conV d = some v ∧ PE X (.Constant k j p) (tC v) := by
  cases d <;> cases k <;> (first | (cases h; done) | skip)
  · exact ⟨_, rfl, pe_non⟩
  · have e := eq_of_beq h
    subst e
    exact ⟨_, rfl, pe_bl⟩
  · have e := (of_decide_eq_true h)
    subst e
    exact ⟨_, rfl, pe_int⟩
  · have e := (of_decide_eq_true h)
    subst e
    exact ⟨_, rfl, pe_str⟩
theorem store_of {S : SE} {i : Nat} {x : Str} {X : Cx} {E : XK} (F : XF G E S X c) (h : storeB S i x = true) : X.N[i]? = some x ∧ L2.Loc X.env.scope x ∧ (X.fn x = true ∨ X.env.scope.names.lookup x = some .local) ∧ i ∉ G.IO := by
  unfold storeB at h
  simp only [Bool.and_eq_true, decide_eq_true_eq, Bool.not_eq_true'] at h
  obtain ⟨⟨h1, h2⟩, h3⟩ := h
  refine ⟨by rw [F.N]; exact h1, ?_, ?_, fun z => ?_⟩
  · unfold L2.Loc
    rw [F.sc]
    split at h2
    · rename_i e; exact .inl e
    · rename_i e; exact .inr e
    · cases h2
  · rw [F.sc]
    split at h2
    · rename_i e; exact .inr e
    · exact .inl (F.st x h2)
    · cases h2
  · have := List.contains_iff_mem.mpr (F.io i z)
    rw [h3] at this
    cases this
theorem tg_of {S : SE} {X : Cx} {E : XK} (F : XF G E S X c) {tg : PL.Tg} {x : Expr} (h : chkTg S tg x = true) : PG X x (gD G tg) ∧ ∀ i ∈ tgs tg, i ∉ G.IO := by
  have nd : X.N.Nodup := by rw [F.N]; exact F.nd
  cases tg with
  | one i =>
    cases x <;> (first | (cases h; done) | skip)
    obtain ⟨h1, h2, h3, h4⟩ := store_of F h
    exact ⟨sg_one (pg_name nd h1 h2 h3), fun j hj => by rw [List.mem_singleton.mp hj]; exact h4⟩
  | many is =>
    cases x <;> (first | (cases h; done) | skip)
    rename_i es k p
    have h : (decide (es.length = is.length) && (is.zip es).all fun p => match p.2 with
      | .Name x _ => storeB S p.1 x
      | _ => false) = true := h
    replace h := (Bool.and_eq_true ..).mp h; rw [decide_eq_true_eq] at h
    obtain ⟨h1, h2⟩ := h
    have go : ∀ (is : List Nat) (es : List Expr), es.length = is.length → ((is.zip es).all fun p => match p.2 with
      | .Name x _ => storeB S p.1 x
      | _ => false) = true → PGs X es (gNames is) ∧ (assignEach es X.env).length = is.length ∧ (assignEach es X.env).findIdx? (·.1) = none ∧ ∀ i ∈ is, i ∉ G.IO := fun is => by
      induction is with
      | nil =>
        intro es e _
        obtain rfl := List.eq_nil_of_length_eq_zero e
        exact ⟨pgs_nil, rfl, rfl, fun i hi => by cases hi⟩
      | cons i is ih =>
        intro es e h
        cases es with
        | nil => cases e
        | cons y es =>
          rw [List.zip_cons_cons, List.all_cons, Bool.and_eq_true] at h
          obtain ⟨g1, g2, g3, g4⟩ := ih es (by simpa using e) h.2
          obtain ⟨x, p, rfl⟩ : ∃ x p, y = .Name x p := by
            cases y <;> (first | exact ⟨_, _, rfl⟩ | exact absurd h.1 (by simp))
          obtain ⟨h1, h2, h3, h4⟩ := store_of F h.1
          refine ⟨pgs_cons (pg_name nd h1 h2 h3) g1 rfl, ?_, ?_, fun j hj => (List.mem_cons.mp hj).elim (fun q => by rw [q]; exact h4) (g4 j)⟩
          · show ((false, assign (.Name x p) X.env) :: assignEach es X.env).length = _
            rw [List.length_cons, List.length_cons, g2]
          · show ((false, assign (.Name x p) X.env) :: assignEach es X.env).findIdx? (·.1) = none
            rw [List.findIdx?_cons, g3]
            rfl
    obtain ⟨g1, g2, g3, g4⟩ := go is es h1 h2
    exact ⟨sg_many F.gx F.calm g1 g2 g3, g4⟩
/-- the block of a comprehension -/
theorem XF.blk {S : SE} {X : Cx} {E : XK} (F : XF G E S X c) (scope : Scope) (s : Shared) (H : Hp) (C : Addr) (cl : List (Str × Addr)) (fp : List Addr) : XF G (fun _ _ _ => False) (S.blk scope) (X.blk s H scope (compEnvC scope cl C X.env) fp) c where
  gx := ⟨F.gx.p, F.gx.w, F.gx.k, F.gx.u⟩
  calm := F.calm
  nd := F.nd
  N := F.N
  sc := by show relS scope X.env.scope = relS scope S.sc; rw [F.sc]
  st := fun x h => h
  io := F.io
  con := F.con
  fnv := F.fnv
  blt := F.blt
  cio := F.cio
  call := let ⟨k, h1, h2, h3⟩ := F.call; ⟨k, h1, fun z => ⟨(h2 z).ex, (h2 z).room⟩, h3⟩
  told := F.told
  px := fun pins σ H s e s' I ⟨_, _, _, _, _, _, _, _, _, _, _, _, z⟩ => z.elim
/-- the body of a lambda -/
theorem XF.lam {S : SE} {X : Cx} {E0 E : XK} (F : XF G E0 S X c) {k : Nat} (hk : ∀ f bs, S.io f = some bs → ∃ (fd : FuncData) (ps : List Str) (G' : GS), G.re G' ∧ FnOk X.prog X.w X.K X.mg X.base (L2.CX X.prog X.w) k (He.ga X.K (Str.ofString f)) fd ps (spF G' (c.call f)) ∧
    X.mg (Str.ofString f) = some (.ref (He.ga X.K (Str.ofString f))) ∧ PySem.W.keepIn X.K (.ref (He.ga X.K (Str.ofString f))) = true ∧ Binds X.K fd ps []) {scope : Scope} {A : Around} {outer : List Env} {s : Shared} {H : Hp} {f c' : Addr}
    (hr : Room k (A.deeper (LamX.lamEnv X scope s.heap.objs.size f c'))) : XF G E (S.lam scope) (LamX.lamCx X A outer s H E scope f c') c where
  gx := ⟨F.gx.p, F.gx.w, F.gx.k, by have := hr.un; show (A.deeper _).units + 100 < cLine; omega⟩
  calm := rfl
  nd := F.nd
  N := F.N
  sc := rfl
  st := fun x h => by cases h
  io := F.io
  con := F.con
  fnv := F.fnv
  blt := F.blt
  cio := F.cio
  call := ⟨k, hr, fun z => (by cases z), hk⟩
  told := F.told
  px := passes_call (takes_of (X := LamX.lamCx X A outer s H E scope f c') rfl rfl rfl rfl) fun _ _ _ _ h => h
/-- what is known of an expression -/
structure Good (G : GS) (E : XK) (X : Cx) (c : PL.Ctx) (e : PL.E) (x : Expr) : Prop where
  pe : PE X x (tE G (wx E) (PL.evalE c e))
  pt : okT x = true → PT X x (tB G (wx E) (PL.evT (PL.evalE c e)))
  pw : ∀ o xs p, x = .BoolOp o xs p → PW X x (tB G (wx E) (PL.evT (PL.evalE c e)))
theorem Good.plain {E : XK} {X : Cx} {e : PL.E} {x : Expr} (h : PE X x (tE G (wx E) (PL.evalE c e))) (hp : plainT x = true) : Good G E X c e x :=
  ⟨h, fun _ => st_val h (true_of hp), fun o xs p e => by subst e; cases hp⟩
end
end PLS
end

section
set_option Elab.async false
set_option linter.all false
set_option maxRecDepth 100000
set_option maxHeartbeats 8000000
/-! the checker is sound: expressions -/
namespace PLS
open PySem PySem.Spec PyProof.Rows L2 PySem.W
section
variable {G : GS} {c : PL.Ctx}
theorem name_of {o : Expr} (h : isName o = true) {m : Str} {env : Env} : attributeBase o m env (eval o env) = eval o env := by
  cases o <;> first | rfl | cases h
theorem isEmpty_nil {α : Type} {l : List α} (h : l.isEmpty = true) : l = [] := by
  cases l with
  | nil => rfl
  | cons _ _ => cases h
theorem few_of {y : Expr} {cp : Pos} {env : Env} (h : noStar y = true) : ((backTo cp (starEach [y] env)).all (fun z => !z.1) && (backToKw cp (keywordEach [] env)).all (fun z => z.1.isSome) && decide (([y] : List Expr).length + ([] : List Keyword).length + (if ([] : List Keyword).isEmpty then 0 else 1) < 30)) = true := by
  rw [star_of h]
  rfl
theorem b1_of {op : PL.B1} {x : Str} {X : Cx} {E : XK} {S : SE} (F : XF G E S X c) {ra : PL.Ev PL.AV} {y : Expr} {p pos : Pos} (hb : b1B op x = true) (hgb : gbB S x = true) (hs : noStar y = true) (ha : PE X y (tE G (wx E) ra)) :
    PE X (.Call (.Name x p) [y] [] pos) (tE G (wx E) (PL.ev1 ra (PL.b1D op))) := by
  obtain ⟨g1, g2, g3, g4⟩ := gb_of F hgb
  cases op <;> (first | (cases hb; done) | skip)
  all_goals (have e := of_decide_eq_true hb; subst e)
  · exact se_b1 (oc_len F.gx) g1 g2 (by rfl) ha g4 g3 (star_of hs)
  · exact se_b1t (oc_tuple F.gx) g1 g2 (by rfl) ha g4 g3 (star_of hs)
  · exact se_b1t (oc_list F.gx) g1 g2 (by rfl) ha g4 g3 (star_of hs)
  · exact se_b1t (oc_dict F.gx F.calm) g1 g2 (by rfl) ha g4 g3 (star_of hs)
  · exact se_b1 (oc_sorted F.gx) g1 g2 (by rfl) ha g4 g3 (star_of hs)
  · exact se_b1 (oc_all F.gx F.calm) g1 g2 (by rfl) ha g4 g3 (star_of hs)
  · exact se_b1t (oc_int F.gx) g1 g2 (by rfl) ha g4 g3 (star_of hs)
  · exact se_b1 (oc_abs F.gx) g1 g2 (by rfl) ha g4 g3 (star_of hs)
theorem vis_of {S : SE} {i : Nat} {x : Str} {X : Cx} {E : XK} (F : XF G E S X c) (h : nameB S i x = true) : X.N[i]? = some x ∧ Vis X.env.scope x ∧ (x == ("__debug__" : Str)) = false ∧ (x == ("__classdict__" : Str)) = false := by
  simp only [nameB, notDbg, Bool.and_eq_true, decide_eq_true_eq, Bool.not_eq_true', decide_eq_false_iff_not] at h
  obtain ⟨⟨h1, h2⟩, ⟨h3, h4⟩, _⟩ := h
  refine ⟨by rw [F.N]; exact h1, ?_, h3, h4⟩
  unfold Vis
  rw [F.sc]
  split at h2
  · rename_i e; exact .inl e
  · rename_i e; exact .inr (.inl e)
  · rename_i e; exact .inr (.inr e)
  · cases h2
theorem isi_of {S : SE} {X : Cx} {E : XK} (F : XF G E S X c) {k : PL.Kind} {y z : Expr} {p pos : Pos} {ra : PL.Ev PL.AV} (h : isiB S k z = true) (g1 : Gl X "isinstance") (g2 : X.mg "isinstance" = none) (ha : PE X y (tE G (wx E) ra)) (hs : noStar y = true) :
    PE X (.Call (.Name "isinstance" p) [y, z] [] pos) (tE G (wx E) (PL.ev1 ra (PL.isiD k))) := by
  cases z <;> (first | (cases h; done) | skip)
  · rename_i n pn
    unfold isiB at h
    cases q : kindN k with
    | none => rw [q] at h; cases h
    | some s =>
      rw [q] at h
      simp only [Bool.and_eq_true, decide_eq_true_eq] at h
      obtain ⟨rfl, h5⟩ := h
      obtain ⟨k1, k2, k3, k4⟩ := gb_of F h5
      have hv : bootBuiltins (Str.ofString s) = some (.type s) := by cases k <;> cases q <;> rfl
      exact se_isi F.gx q g1 g2 (pe_bltn k1 k2 hv rfl k4 k3) ha hs rfl
  · rename_i es kk pt
    rcases es with _ | ⟨b, _ | ⟨d, _ | ⟨_, _⟩⟩⟩ <;> (first | (cases h; done) | (cases b <;> (first | (cases h; done) | (cases d <;> (first | (cases h; done) | skip)))))
    simp only [isiB, Bool.and_eq_true, decide_eq_true_eq] at h
    obtain ⟨⟨⟨⟨rfl, rfl⟩, h2⟩, rfl⟩, h3⟩ := h
    obtain ⟨k1, k2, k3, k4⟩ := gb_of F h2
    obtain ⟨l1, l2, l3, l4⟩ := gb_of F h3
    exact se_isiT F.gx g1 g2 (pe_bltn k1 k2 rfl rfl k4 k3) (pe_bltn l1 l2 rfl rfl l4 l3) ha hs rfl rfl
mutual
theorem okE : ∀ (e : PL.E) (S : SE) (X : Cx) (E : XK) (x : Expr), XF G E S X c → chkE S e x = true → Good G E X c e x
  | .var i, S, X, E, x, F, h => by
    cases x <;> (first | (cases h; done) | skip)
    exact .plain (by rw [PL.evalE]; exact se_var (nb_of F h)) rfl
  | .con d, S, X, E, x, F, h => by
    cases x <;> (first | (cases h; done) | skip)
    obtain ⟨v, e, p⟩ := con_of h
    exact .plain (by rw [PL.evalE]; exact se_con e p) rfl
  | .glo g i, S, X, E, x, F, h => by
    cases x <;> (first | (cases h; done) | skip)
    simp only [chkE, Bool.and_eq_true, decide_eq_true_eq] at h
    obtain ⟨⟨rfl, h1⟩, h2⟩ := h
    obtain ⟨g1, g2, g3⟩ := gl_of F h1
    obtain ⟨t, hm⟩ := F.con g i h2
    exact .plain (by rw [PL.evalE]; exact se_glo (pe_glob g1 hm ⟨t, rfl⟩ g2)) rfl
  | .fnv g, S, X, E, x, F, h => by
    cases x <;> (first | (cases h; done) | skip)
    simp only [chkE, Bool.and_eq_true, decide_eq_true_eq] at h
    obtain ⟨⟨rfl, h1⟩, h2⟩ := h
    obtain ⟨g1, g2, g3⟩ := gl_of F h1
    refine .plain (by rw [PL.evalE]; refine se_fnv (pe_glob g1 (F.fnv g h2) ?_ g2); rw [F.gx.k]; rfl) rfl
  | .bin op a b, S, X, E, x, F, h => by
    cases x <;> (first | (cases h; done) | skip)
    simp only [chkE, Bool.and_eq_true, decide_eq_true_eq] at h
    obtain ⟨⟨rfl, h1⟩, h2⟩ := h
    exact .plain (by rw [PL.evalE]; exact se_bin F.gx op (okE a S X E _ F h1).pe (okE b S X E _ F h2).pe) rfl
  | .lrep es k, S, X, E, x, F, h => by
    cases x <;> (first | (cases h; done) | skip)
    rename_i l o r p
    cases l <;> (first | (cases h; done) | skip)
    simp only [chkE, Bool.and_eq_true, decide_eq_true_eq] at h
    obtain ⟨⟨rfl, h1⟩, h2⟩ := h
    exact .plain (by rw [PL.evalE]; exact se_lrep (okEs es S X E _ F h1) (okE k S X E _ F h2).pe) rfl
  | .not a, S, X, E, x, F, h => by
    cases x <;> (first | (cases h; done) | skip)
    simp only [chkE, Bool.and_eq_true, decide_eq_true_eq] at h
    obtain ⟨⟨rfl, h1⟩, h2⟩ := h
    have ih := okE a S X E _ F h1
    exact ⟨by rw [PL.evalE]; exact se_not ih.pe, fun _ => by rw [PL.evalE]; exact st_not (ih.pt h2), fun o xs p e => by cases e⟩
  | .and a b, S, X, E, x, F, h => by
    cases x <;> (first | (cases h; done) | skip)
    rename_i o l p
    rcases l with _ | ⟨y, _ | ⟨z, rest⟩⟩ <;> (first | (cases h; done) | skip)
    simp only [chkE, Bool.and_eq_true, decide_eq_true_eq] at h
    obtain ⟨⟨⟨rfl, h1⟩, h2⟩, h3⟩ := h
    have ia := okE a S X E _ F h1
    have hb : PE X (.BoolOp .And (z :: rest) p) (tE G (wx E) (PL.evalE c b)) ∧ PW X (.BoolOp .And (z :: rest) p) (tB G (wx E) (PL.evT (PL.evalE c b))) := by
      cases rest with
      | nil =>
        rw [Bool.and_eq_true] at h3
        have ib := okE b S X E _ F h3.1
        exact ⟨pe_one ib.pe, pw_and1 (ib.pt h3.2)⟩
      | cons w ws =>
        have ib := okE b S X E _ F h3
        exact ⟨ib.pe, ib.pw _ _ _ rfl⟩
    have pw := sw_and (ia.pt h2) hb.2
    exact ⟨by rw [PL.evalE]; exact se_and ia.pe hb.1, fun _ => by rw [PL.evalE]; exact pw.pt, fun o xs q e => by cases e; rw [PL.evalE]; exact pw⟩
  | .or a b, S, X, E, x, F, h => by
    cases x <;> (first | (cases h; done) | skip)
    rename_i o l p
    rcases l with _ | ⟨y, _ | ⟨z, rest⟩⟩ <;> (first | (cases h; done) | skip)
    simp only [chkE, Bool.and_eq_true, decide_eq_true_eq] at h
    obtain ⟨⟨⟨rfl, h1⟩, h2⟩, h3⟩ := h
    have ia := okE a S X E _ F h1
    have hb : PE X (.BoolOp .Or (z :: rest) p) (tE G (wx E) (PL.evalE c b)) ∧ PW X (.BoolOp .Or (z :: rest) p) (tB G (wx E) (PL.evT (PL.evalE c b))) := by
      cases rest with
      | nil =>
        rw [Bool.and_eq_true] at h3
        have ib := okE b S X E _ F h3.1
        exact ⟨pe_one ib.pe, pw_or1 (ib.pt h3.2)⟩
      | cons w ws =>
        have ib := okE b S X E _ F h3
        exact ⟨ib.pe, ib.pw _ _ _ rfl⟩
    have pw := sw_or (ia.pt h2) hb.2
    exact ⟨by rw [PL.evalE]; exact se_or ia.pe hb.1, fun _ => by rw [PL.evalE]; exact pw.pt, fun o xs q e => by cases e; rw [PL.evalE]; exact pw⟩
  | .cmp op a b, S, X, E, x, F, h => by
    cases x <;> (first | (cases h; done) | skip)
    rename_i l os rs p
    rcases os with _ | ⟨o, _ | ⟨o', os⟩⟩ <;> rcases rs with _ | ⟨r, _ | ⟨r', rs⟩⟩ <;> (first | (cases h; done) | skip)
    simp only [chkE, Bool.and_eq_true, decide_eq_true_eq] at h
    obtain ⟨⟨⟨rfl, h1⟩, h2⟩, h3⟩ := h
    exact ⟨by rw [PL.evalE]; exact se_cmp F.gx (okE a S X E _ F h1).pe (okE b S X E _ F h2).pe (marks_of h3), fun _ => by rw [PL.evalE]; exact st_cmp F.gx (okE a S X E _ F h1).pe (okE b S X E _ F h2).pe (marks_of h3), fun o xs p e => by cases e⟩
  | .chain op op' a b d, S, X, E, x, F, h => by
    cases x <;> (first | (cases h; done) | skip)
    rename_i l os rs p
    rcases os with _ | ⟨o, _ | ⟨o', _ | ⟨o2, os⟩⟩⟩ <;> rcases rs with _ | ⟨r, _ | ⟨r', _ | ⟨r2, rs⟩⟩⟩ <;> (first | (cases h; done) | skip)
    simp only [chkE, Bool.and_eq_true, decide_eq_true_eq] at h
    obtain ⟨⟨⟨⟨⟨rfl, rfl⟩, h1⟩, h2⟩, h3⟩, h4⟩ := h
    exact ⟨by rw [PL.evalE]; exact se_chain F.gx (okE a S X E _ F h1).pe (okE b S X E _ F h2).pe (okE d S X E _ F h3).pe (marks_of h4), fun _ => by rw [PL.evalE]; exact st_chain F.gx (okE a S X E _ F h1).pe (okE b S X E _ F h2).pe (okE d S X E _ F h3).pe (marks_of h4), fun o xs p e => by cases e⟩
  | .ite t a b, S, X, E, x, F, h => by
    cases x <;> (first | (cases h; done) | skip)
    simp only [chkE, Bool.and_eq_true] at h
    have ⟨⟨⟨h1, h2⟩, h3⟩, h4⟩ := h
    exact ⟨by rw [PL.evalE]; exact se_ite ((okE t S X E _ F h1).pt h2) (okE a S X E _ F h3).pe (okE b S X E _ F h4).pe, (fun z => by cases z), (fun o xs p e => by cases e)⟩
  | .tup es, S, X, E, x, F, h => by
    cases x <;> (first | (cases h; done) | skip)
    exact .plain (by rw [PL.evalE]; exact se_tup (okEs es S X E _ F h)) rfl
  | .lst es, S, X, E, x, F, h => by
    cases x <;> (first | (cases h; done) | skip)
    exact .plain (by rw [PL.evalE]; exact se_lst (okEs es S X E _ F h)) rfl
  | .sub a i, S, X, E, x, F, h => by
    cases x <;> (first | (cases h; done) | skip)
    simp only [chkE, Bool.and_eq_true] at h
    obtain ⟨⟨h1, h2⟩, h3⟩ := h
    exact .plain (by rw [PL.evalE]; exact se_sub F.gx (okE a S X E _ F h1).pe (okE i S X E _ F h2).pe (slice_of h3)) rfl
  | .slice a lo hi, S, X, E, x, F, h => by
    cases x <;> (first | (cases h; done) | skip)
    rename_i l r p
    cases r <;> (first | (cases h; done) | skip)
    rename_i lo' hi' st p'
    simp only [chkE, Bool.and_eq_true] at h
    have ⟨⟨⟨h1, h2⟩, h3⟩, h4⟩ := h
    cases st with
    | some _ => cases h1
    | none => exact .plain (by rw [PL.evalE]; exact se_slice F.gx (okE a S X E _ F h2).pe (okO lo S X E _ F h3) (okO hi S X E _ F h4)) rfl
  | .comp own tg src cnd elt, S, X, E, x, F, h => by
    cases x <;> (first | (cases h; done) | skip)
    rename_i y gens scope p
    rcases gens with _ | ⟨⟨tgE, iter, ifs, as⟩, _ | ⟨_, _⟩⟩ <;> (first | (cases h; done) | skip)
    simp only [chkE, Bool.and_eq_true, decide_eq_true_eq] at h
    obtain ⟨⟨⟨⟨⟨⟨⟨⟨h0, h1⟩, h2⟩, h3⟩, h4⟩, h5⟩, h6⟩, h7⟩, h8⟩ := h
    subst h0
    have own_eq : (ownN S own).map (·.2) = own := by unfold ownN; rw [List.map_map]; exact List.map_id' own
    have B := fun s H C cl fp => F.blk scope s H C cl fp
    refine .plain ?_ rfl
    rw [PL.evalE, ← own_eq]
    refine se_comp (W0 := wx fun _ _ _ => False) F.gx F.calm (by rw [F.N]; exact F.nd) (okSrc src S X E tgE iter F h4) (by rw [F.N, F.sc]; exact blkOk_by h1) ?_ ?_ (fun s H C cl fp => (tg_of (B s H C cl fp) h6).1) (fun s H C cl fp => okB cnd _ _ _ ifs (B s H C cl fp) h7) (fun s H C cl fp => se_d (okE elt _ _ _ _ (B s H C cl fp) h8).pe) (set_of h5)
    · rw [own_eq]
      intro i hi z
      have := List.all_eq_true.mp h2 i hi
      rw [Bool.not_eq_true'] at this
      rw [List.contains_iff_mem.mpr (F.io i z)] at this
      cases this
    · rw [own_eq]
      intro i hi
      exact List.contains_iff_mem.mp (List.all_eq_true.mp h3 i hi)
  | .call f args, S, X, E, x, F, h => by
    cases x <;> (first | (cases h; done) | skip)
    rename_i fn ys kws p
    cases fn <;> rcases ys with _ | ⟨y, ys⟩ <;> (first | (cases h; done) | skip)
    simp only [chkE, Bool.and_eq_true, decide_eq_true_eq] at h
    obtain ⟨⟨⟨⟨⟨h0, rfl⟩, h1⟩, h2⟩, h3⟩, h4⟩ := h
    obtain rfl := isEmpty_nil h0
    obtain ⟨g1, g2, g3⟩ := gl_of F h1
    refine .plain ?_ rfl
    rw [PL.evalE, F.cio]
    cases q : S.io f with
    | none => rw [q] at h4; cases h4
    | some bs =>
      rw [q] at h4
      obtain ⟨k, hr, _, hcl⟩ := F.call
      obtain ⟨fd, ps, G', hre, FO, hm, hk, hb⟩ := hcl f bs q
      exact se_call hre FO hr g1 hm hk hb F.px (okAs bs args S X E _ F h4) g2 h2 h3
  | .callv i args, S, X, E, x, F, h => by
    cases x <;> (first | (cases h; done) | skip)
    rename_i fn ys kws p
    cases fn <;> rcases ys with _ | ⟨y, ys⟩ <;> (first | (cases h; done) | skip)
    simp only [chkE, Bool.and_eq_true] at h
    obtain ⟨⟨⟨⟨h0, h1⟩, h2⟩, h3⟩, h4⟩ := h
    obtain rfl := isEmpty_nil h0
    obtain ⟨v1, v2, v3, v4⟩ := vis_of F h1
    refine .plain ?_ rfl
    rw [PL.evalE]
    exact se_callv F.gx (fun f bs q => by
      obtain ⟨k, hr, _, hcl⟩ := F.call
      obtain ⟨fd, ps, G', hre, FO, hm, hk, hb⟩ := hcl f bs (by rw [← F.cio]; exact q)
      exact ⟨k, fd, ps, G', hre, FO, hr, hk, hb⟩) v1 v2 v3 v4 F.px (okAs _ args S X E _ F h4) h2 h3
  | .told f body, S, X, E, x, F, h => by
    cases x <;> (first | (cases h; done) | skip)
    rename_i fn ys kws p
    rcases ys with _ | ⟨y, _ | ⟨z, ys⟩⟩
    · cases fn <;> cases h
    rotate_left
    · cases fn <;> (first | (cases h; done) | skip)
      cases y <;> cases h
    cases fn <;> (first | (cases h; done) | skip)
    cases y <;> (first | (cases h; done) | skip)
    rename_i nm np params y scope lp
    simp only [chkE, Bool.and_eq_true, decide_eq_true_eq] at h
    obtain ⟨⟨⟨⟨⟨⟨⟨h0, rfl⟩, h1⟩, h2⟩, h3⟩, h4⟩, h5⟩, h6⟩ := h
    obtain rfl := isEmpty_nil h0
    obtain ⟨g1, g2, g3⟩ := gl_of F h1
    refine .plain ?_ rfl
    rw [PL.evalE]
    cases q : c.told f with
    | none => exact ⟨fun pins s σ H Q I h => by
        obtain ⟨Z, ρ, J, o⟩ := h
        exact o.elim⟩
    | some t =>
      obtain ⟨k, hr, hl, hcl⟩ := F.call
      have hpar : params = ⟨[], [], none, [], [], none, []⟩ := by
        unfold noPar at h5
        split at h5
        · rfl
        · cases h5
      subst hpar
      exact se_told F.gx (F.told f t q) (hl h2) g1 g2 (by rw [F.sc]; exact LamX.lamS_by h4) rfl (fun _ _ _ _ _ => rfl) fun A outer s H E f' c' hr2 => (okE body _ _ _ _ (F.lam hcl hr2) h6).pe
  | .b1 op a, S, X, E, x, F, h => by
    cases x <;> (first | (cases h; done) | skip)
    rename_i fn ys kws p
    cases fn <;> rcases ys with _ | ⟨y, _ | ⟨z, ys⟩⟩ <;> (first | (cases h; done) | skip)
    simp only [chkE, Bool.and_eq_true] at h
    obtain ⟨⟨⟨⟨h0, h1⟩, h2⟩, h3⟩, h4⟩ := h
    obtain rfl := isEmpty_nil h0
    exact .plain (by rw [PL.evalE]; exact b1_of F h1 h2 h3 (okE a S X E _ F h4).pe) rfl
  | .min2 a b, S, X, E, x, F, h => by
    cases x <;> (first | (cases h; done) | skip)
    rename_i fn ys kws p
    cases fn <;> rcases ys with _ | ⟨y, _ | ⟨z, _ | ⟨w, ys⟩⟩⟩ <;> (first | (cases h; done) | skip)
    simp only [chkE, Bool.and_eq_true, decide_eq_true_eq] at h
    obtain ⟨⟨⟨⟨⟨⟨h0, rfl⟩, h1⟩, h2⟩, h3⟩, h4⟩, h5⟩ := h
    obtain rfl := isEmpty_nil h0
    obtain ⟨g1, g2, g3, g4⟩ := gb_of F h1
    exact .plain (by rw [PL.evalE]; exact se_min2 (oc_min2 F.gx F.calm) g1 g2 (by rfl) (okE a S X E _ F h4).pe (okE b S X E _ F h5).pe g4 g3 (star_of h2) (star_of h3)) rfl
  | .isi k a, S, X, E, x, F, h => by
    cases x <;> (first | (cases h; done) | skip)
    rename_i fn ys kws p
    cases fn <;> rcases ys with _ | ⟨y, _ | ⟨z, _ | ⟨w, ys⟩⟩⟩ <;> (first | (cases h; done) | skip)
    simp only [chkE, Bool.and_eq_true, decide_eq_true_eq] at h
    obtain ⟨⟨⟨⟨⟨h0, rfl⟩, h1⟩, h2⟩, h3⟩, h4⟩ := h
    obtain rfl := isEmpty_nil h0
    obtain ⟨g1, g2, g3, g4⟩ := gb_of F h1
    have A := (okE a S X E _ F h3).pe
    refine .plain ?_ rfl
    rw [PL.evalE]
    exact isi_of F h4 g1 g2 A h2
  | .lrange a, S, X, E, x, F, h => by
    cases x <;> (first | (cases h; done) | skip)
    rename_i fn ys kws p
    rcases ys with _ | ⟨y, _ | ⟨z, ys⟩⟩
    · cases fn <;> cases h
    rotate_left
    · cases fn <;> (first | (cases h; done) | skip)
      cases y <;> (first | (cases h; done) | skip)
      rename_i f as k q
      cases f <;> rcases as with _ | ⟨_, _ | ⟨_, _⟩⟩ <;> cases h
    cases fn <;> (first | (cases h; done) | skip)
    cases y <;> (first | (cases h; done) | skip)
    rename_i fn ys kws2 p2
    cases fn <;> rcases ys with _ | ⟨y, _ | ⟨z, ys⟩⟩ <;> (first | (cases h; done) | skip)
    simp only [chkE, Bool.and_eq_true, decide_eq_true_eq] at h
    obtain ⟨⟨⟨⟨⟨⟨⟨h0, h0'⟩, rfl⟩, h1⟩, rfl⟩, h2⟩, h3⟩, h4⟩ := h
    obtain rfl := isEmpty_nil h0
    obtain rfl := isEmpty_nil h0'
    obtain ⟨g1, g2, g3, g4⟩ := gb_of F h1
    obtain ⟨k1, k2, k3, k4⟩ := gb_of F h2
    exact .plain (by rw [PL.evalE]; exact se_lrange F.calm g1 g2 k1 k2 (okE a S X E _ F h4).pe h3) rfl
  | .lenset a, S, X, E, x, F, h => by
    cases x <;> (first | (cases h; done) | skip)
    rename_i fn ys kws p
    rcases ys with _ | ⟨y, _ | ⟨z, ys⟩⟩
    · cases fn <;> cases h
    rotate_left
    · cases fn <;> (first | (cases h; done) | skip)
      cases y <;> (first | (cases h; done) | skip)
      rename_i f as k q
      cases f <;> rcases as with _ | ⟨_, _ | ⟨_, _⟩⟩ <;> cases h
    cases fn <;> (first | (cases h; done) | skip)
    cases y <;> (first | (cases h; done) | skip)
    rename_i fn ys kws2 p2
    cases fn <;> rcases ys with _ | ⟨y, _ | ⟨z, ys⟩⟩ <;> (first | (cases h; done) | skip)
    simp only [chkE, Bool.and_eq_true, decide_eq_true_eq] at h
    obtain ⟨⟨⟨⟨⟨⟨⟨h0, h0'⟩, rfl⟩, h1⟩, rfl⟩, h2⟩, h3⟩, h4⟩ := h
    obtain rfl := isEmpty_nil h0
    obtain rfl := isEmpty_nil h0'
    obtain ⟨g1, g2, g3, g4⟩ := gb_of F h1
    obtain ⟨k1, k2, k3, k4⟩ := gb_of F h2
    exact .plain (by rw [PL.evalE]; exact se_lenset F.gx F.calm g1 g2 k1 k2 (okE a S X E _ F h4).pe (star_of h3)) rfl
  | .comp2 own tg src tg1 src1 cnd elt, S, X, E, x, F, h => by
    cases x <;> (first | (cases h; done) | skip)
    rename_i y gens scope p
    rcases gens with _ | ⟨⟨tgE, iter, ifs, as⟩, _ | ⟨⟨tgE1, iter1, ifs1, as1⟩, _ | ⟨_, _⟩⟩⟩ <;> (first | (cases h; done) | skip)
    simp only [chkE, Bool.and_eq_true, decide_eq_true_eq] at h
    obtain ⟨⟨⟨⟨⟨⟨⟨⟨⟨⟨⟨⟨⟨⟨h0, h0'⟩, hif⟩, h1⟩, h2⟩, h3⟩, h3'⟩, h4⟩, h5⟩, h6⟩, h4'⟩, h5'⟩, h6'⟩, h7⟩, h8⟩ := h
    subst h0 h0'
    obtain rfl := isEmpty_nil hif
    have own_eq : (ownN S own).map (·.2) = own := by unfold ownN; rw [List.map_map]; exact List.map_id' own
    have B := fun s H C cl fp => F.blk scope s H C cl fp
    refine .plain ?_ rfl
    rw [PL.evalE, ← own_eq]
    refine se_comp2 (W0 := wx fun _ _ _ => False) F.gx F.calm (by rw [F.N]; exact F.nd) (okSrc src S X E tgE iter F h4) (by rw [F.N, F.sc]; exact blkOk_by h1) ?_ ?_ (fun s H C cl fp => (tg_of (B s H C cl fp) h6).1) (fun s H C cl fp => okSrc src1 _ _ _ tgE1 iter1 (B s H C cl fp) h4') (fun s H C cl fp => (tg_of (B s H C cl fp) h6').1) (fun s H C cl fp => okB cnd _ _ _ ifs1 (B s H C cl fp) h7) (fun s H C cl fp => se_d (okE elt _ _ _ _ (B s H C cl fp) h8).pe) (set_of h5) (fun env => set_of h5')
    · rw [own_eq]
      exact fun i hi => List.contains_iff_mem.mp (List.all_eq_true.mp h3 i hi)
    · rw [own_eq]
      exact fun i hi => List.contains_iff_mem.mp (List.all_eq_true.mp h3' i hi)
  | .trange a, S, X, E, x, F, h => by
    cases x <;> (first | (cases h; done) | skip)
    rename_i fn ys kws p
    rcases ys with _ | ⟨y, _ | ⟨z, ys⟩⟩
    · cases fn <;> cases h
    rotate_left
    · cases fn <;> (first | (cases h; done) | skip)
      cases y <;> (first | (cases h; done) | skip)
      rename_i f as k q
      cases f <;> rcases as with _ | ⟨_, _ | ⟨_, _⟩⟩ <;> cases h
    cases fn <;> (first | (cases h; done) | skip)
    cases y <;> (first | (cases h; done) | skip)
    rename_i fn ys kws2 p2
    cases fn <;> rcases ys with _ | ⟨y, _ | ⟨z, ys⟩⟩ <;> (first | (cases h; done) | skip)
    simp only [chkE, Bool.and_eq_true, decide_eq_true_eq] at h
    obtain ⟨⟨⟨⟨⟨⟨⟨h0, h0'⟩, rfl⟩, h1⟩, rfl⟩, h2⟩, h3⟩, h4⟩ := h
    obtain rfl := isEmpty_nil h0
    obtain rfl := isEmpty_nil h0'
    obtain ⟨g1, g2, g3, g4⟩ := gb_of F h1
    obtain ⟨k1, k2, k3, k4⟩ := gb_of F h2
    exact .plain (by rw [PL.evalE]; exact se_trange F.calm g1 g2 k1 k2 (okE a S X E _ F h4).pe h3) rfl
  | .append a b, S, X, E, x, F, h => by
    cases x <;> (first | (cases h; done) | skip)
    rename_i fn ys kws p
    cases fn <;> rcases ys with _ | ⟨y, _ | ⟨z, ys⟩⟩ <;> (first | (cases h; done) | skip)
    simp only [chkE, methB, Bool.and_eq_true, decide_eq_true_eq] at h
    obtain ⟨⟨⟨rfl, ⟨⟨⟨h0, h1⟩, h2⟩, h3⟩⟩, h4⟩, h5⟩ := h
    obtain rfl := isEmpty_nil h0
    exact .plain (by rw [PL.evalE]; exact se_append (okE a S X E _ F h4).pe (okE b S X E _ F h5).pe (name_of h1) (few_of h3) h2 (star_of h3)) rfl
  | .extend a b, S, X, E, x, F, h => by
    cases x <;> (first | (cases h; done) | skip)
    rename_i fn ys kws p
    cases fn <;> rcases ys with _ | ⟨y, _ | ⟨z, ys⟩⟩ <;> (first | (cases h; done) | skip)
    simp only [chkE, methB, Bool.and_eq_true, decide_eq_true_eq] at h
    obtain ⟨⟨⟨rfl, ⟨⟨⟨h0, h1⟩, h2⟩, h3⟩⟩, h4⟩, h5⟩ := h
    obtain rfl := isEmpty_nil h0
    exact .plain (by rw [PL.evalE]; exact se_extend (okE a S X E _ F h4).pe (okE b S X E _ F h5).pe (name_of h1) (few_of h3) h2 (star_of h3)) rfl
  | .popi a b, S, X, E, x, F, h => by
    cases x <;> (first | (cases h; done) | skip)
    rename_i fn ys kws p
    cases fn <;> rcases ys with _ | ⟨y, _ | ⟨z, ys⟩⟩ <;> (first | (cases h; done) | skip)
    simp only [chkE, methB, Bool.and_eq_true, decide_eq_true_eq] at h
    obtain ⟨⟨⟨rfl, ⟨⟨⟨h0, h1⟩, h2⟩, h3⟩⟩, h4⟩, h5⟩ := h
    obtain rfl := isEmpty_nil h0
    exact .plain (by rw [PL.evalE]; exact se_popi (okE a S X E _ F h4).pe (okE b S X E _ F h5).pe (name_of h1) (few_of h3) h2 (star_of h3)) rfl
  | .neg _, S, X, E, x, F, h | .dic0, S, X, E, x, F, h | .dic1 _ _, S, X, E, x, F, h | .lamc _ _ _, S, X, E, x, F, h
  | .fld _ _, S, X, E, x, F, h | .new _ _, S, X, E, x, F, h | .meth _ _ _, S, X, E, x, F, h | .pop _, S, X, E, x, F, h | .get1 _ _, S, X, E, x, F, h | .get2 _ _ _, S, X, E, x, F, h | .index _ _, S, X, E, x, F, h | .split _ _, S, X, E, x, F, h
  | .join _ _, S, X, E, x, F, h | .count _ _, S, X, E, x, F, h | .sortkey _ _, S, X, E, x, F, h => by cases x <;> cases h
theorem okEs : ∀ (es : PL.Es) (S : SE) (X : Cx) (E : XK) (xs : List Expr), XF G E S X c → chkEs S es xs = true → PA X xs (tDs G (wx E) (PL.evalEs c es))
  | .nil, S, X, E, xs, F, h => by
    cases xs <;> (first | (cases h; done) | skip)
    rw [PL.evalEs]
    exact sa_nil
  | .cons e es, S, X, E, xs, F, h => by
    cases xs <;> (first | (cases h; done) | skip)
    simp only [chkEs, Bool.and_eq_true] at h
    obtain ⟨⟨h1, h2⟩, h3⟩ := h
    rw [PL.evalEs]
    exact sa_cons (okE e S X E _ F h2).pe (okEs es S X E _ F h3) (star_of h1)
  | .star e es, S, X, E, xs, F, h => by
    cases xs <;> (first | (cases h; done) | skip)
    rename_i y ys
    cases y <;> (first | (cases h; done) | skip)
    simp only [chkEs, Bool.and_eq_true] at h
    rw [PL.evalEs]
    exact sa_star F.gx (okE e S X E _ F h.1).pe (okEs es S X E _ F h.2) rfl
theorem okAs : ∀ (bs : List Bool) (es : PL.Es) (S : SE) (X : Cx) (E : XK) (xs : List Expr), XF G E S X c → chkAs S bs es xs = true → PA X xs (tAs G (wx E) (PL.evalAs c bs es))
  | [], .nil, S, X, E, xs, F, h => by
    cases xs <;> (first | (cases h; done) | skip)
    rw [PL.evalAs]
    exact sp_nil
  | true :: bs, .cons e es, S, X, E, xs, F, h => by
    cases xs <;> (first | (cases h; done) | skip)
    simp only [chkAs, Bool.and_eq_true] at h
    obtain ⟨⟨h1, h2⟩, h3⟩ := h
    rw [PL.evalAs]
    exact sp_lent (okE e S X E _ F h2).pe (okAs bs es S X E _ F h3) (star_of h1)
  | false :: bs, .cons e es, S, X, E, xs, F, h => by
    cases xs <;> (first | (cases h; done) | skip)
    simp only [chkAs, Bool.and_eq_true] at h
    obtain ⟨⟨h1, h2⟩, h3⟩ := h
    rw [PL.evalAs]
    exact sp_data (okE e S X E _ F h2).pe (okAs bs es S X E _ F h3) (star_of h1)
  | [], .cons _ _, S, X, E, xs, F, h | [], .star _ _, S, X, E, xs, F, h | _ :: _, .nil, S, X, E, xs, F, h | _ :: _, .star _ _, S, X, E, xs, F, h => by cases xs <;> cases h
theorem okO : ∀ (o : PL.Oe) (S : SE) (X : Cx) (E : XK) (x : Option Expr), XF G E S X c → chkO S o x = true → PO X x (tO G (wx E) (PL.evalO c o))
  | .none, S, X, E, x, F, h => by
    cases x <;> (first | (cases h; done) | skip)
    rw [PL.evalO]
    exact so_none
  | .some e, S, X, E, x, F, h => by
    cases x <;> (first | (cases h; done) | skip)
    rw [PL.evalO]
    exact so_some (okE e S X E _ F h).pe
theorem okB : ∀ (o : PL.Oe) (S : SE) (X : Cx) (E : XK) (xs : List Expr), XF G E S X c → chkB S o xs = true → PTs X xs (tB G (wx E) (PL.evalB c o))
  | .none, S, X, E, xs, F, h => by
    cases xs <;> (first | (cases h; done) | skip)
    rw [PL.evalB]
    exact ⟨fun pins s σ H Q I q => pts_nil.run pins s σ H Q I (by
      obtain ⟨Z, ρ, I', o⟩ := q
      exact o H Z (Step.refl I'))⟩
  | .some e, S, X, E, xs, F, h => by
    rcases xs with _ | ⟨y, _ | ⟨z, ys⟩⟩ <;> (first | (cases h; done) | skip)
    simp only [chkB, Bool.and_eq_true] at h
    rw [PL.evalB]
    exact pts_one ((okE e S X E _ F h.1).pt h.2)
theorem okSrc : ∀ (s : PL.Src) (S : SE) (X : Cx) (E : XK) (tg x : Expr), XF G E S X c → chkSrc S s x = true → PI X tg x (iSrc G (wx E) (PL.evalSrc c s))
  | .e a, S, X, E, tg, x, F, h => by
    rw [PL.evalSrc]
    exact si_e F.gx (okE a S X E _ F h).pe
  | .rng1 a, S, X, E, tg, x, F, h => by
    cases x <;> (first | (cases h; done) | skip)
    rename_i fn ys kws p
    cases fn <;> rcases ys with _ | ⟨y, _ | ⟨z, ys⟩⟩ <;> (first | (cases h; done) | skip)
    simp only [chkSrc, Bool.and_eq_true, decide_eq_true_eq] at h
    obtain ⟨⟨⟨⟨h0, rfl⟩, h1⟩, h2⟩, h3⟩ := h
    obtain rfl := isEmpty_nil h0
    obtain ⟨g1, g2, g3, g4⟩ := gb_of F h1
    rw [PL.evalSrc]
    exact si_rng1 g1 g2 (okE a S X E _ F h3).pe (star_of h2)
  | .rng2 a b, S, X, E, tg, x, F, h => by
    cases x <;> (first | (cases h; done) | skip)
    rename_i fn ys kws p
    cases fn <;> rcases ys with _ | ⟨y, _ | ⟨z, _ | ⟨w, ys⟩⟩⟩ <;> (first | (cases h; done) | skip)
    simp only [chkSrc, Bool.and_eq_true, decide_eq_true_eq] at h
    obtain ⟨⟨⟨⟨⟨⟨h0, rfl⟩, h1⟩, h2⟩, h3⟩, h4⟩, h5⟩ := h
    obtain rfl := isEmpty_nil h0
    obtain ⟨g1, g2, g3, g4⟩ := gb_of F h1
    rw [PL.evalSrc]
    exact si_rng2 g1 g2 (okE a S X E _ F h4).pe (okE b S X E _ F h5).pe (by rw [star_of h2, star_of h3]; rfl) (star_of h3)
end
end
end PLS
end

section
set_option Elab.async false
set_option linter.all false
set_option maxRecDepth 100000
set_option maxHeartbeats 8000000
/-! the checker: statements -/
namespace PLS
open PySem PySem.Spec PyProof.Rows L2 PySem.W
def noTup : Expr → Bool
  | .Tuple .. => false
  | _ => true
/-- a row that gives a name a comprehension -/
def lcB (S : SE) (scope : Scope) (x : Str) (px p : Pos) : Bool := (match S.sc.kind with | .function => true | _ => false) && decide (S.sc.names.lookup x = some .local) && (px.line == p.line) && !(scope.names.any fun (n, k) => n == x && (k == .local || k == .cell))
def locB (S : SE) (x : Str) : Bool := decide (S.sc.names.lookup x = some .local)
def isFun (S : SE) : Bool := match S.sc.kind with
  | .function => true
  | _ => false
/-- the values are not all written ones -/
def someWork (vs : List Expr) : Bool := vs.all noStar && !(vs.all (foldedForSure 8)) && !(vs.all (constantsAlone 8))
/-- how the stores go: by a tuple, or from the right (two, three local names on one line) -/
def parK (S : SE) (ts vs : List Expr) : Bool := isFun S && decide (vs.length = ts.length) && match ts with
  | [.Name x px, .Name y py] => (locB S x && locB S y && (py.line == px.line) && decide (x ≠ y) && someWork vs) || !locB S x || !locB S y
  | [.Name x px, .Name y py, .Name z pz] => (locB S x && locB S y && locB S z && (py.line == px.line) && (pz.line == px.line) && decide (x ≠ y) && decide (x ≠ z) && decide (y ≠ z) && someWork vs) || !locB S x || !locB S y || !locB S z
  | _ => decide (3 < ts.length)
def parB (S : SE) (is : List (Nat × Bool)) (ts : List Expr) : Bool := decide (is.length = ts.length) && decide (is.length ≤ 1000) && decide ((is.map (·.1)).Nodup) && (is.zip ts).all fun p => match p.2 with
  | .Name x _ => storeB S p.1.1 x
  | _ => false
mutual
def chkS (S : SE) : PL.S → Stmt → Bool
  | .asg i e, .Assign [.Name x px] v p => storeB S i x && (match e, v with
    | .comp own tg src cnd elt, .ListComp y gens scope _ => lcB S scope x px v.pos && chkE S e v
    | .comp2 own tg src tg1 src1 cnd elt, .ListComp y gens scope _ => lcB S scope x px v.pos && chkE S e v
    | _, _ => noComp v && chkE S e v)
  | .own i e, .Assign [.Name x px] v p => storeB S i x && (match e, v with
    | .comp own tg src cnd elt, .ListComp y gens scope _ => lcB S scope x px v.pos && chkE S e v
    | .comp2 own tg src tg1 src1 cnd elt, .ListComp y gens scope _ => lcB S scope x px v.pos && chkE S e v
    | _, _ => noComp v && chkE S e v)
  | .par is es, .Assign [.Tuple ts _ _] (.Tuple vs _ _) _ => parB S is ts && chkAs S (is.map (·.2)) es vs && parK S ts vs
  | .setI a i x, .Assign [.Subscript o k _] v _ => noComp v && noSlice k && chkE S a o && chkE S i k && chkE S x v
  | .setT a i b j x y, .Assign [.Tuple [.Subscript o k _, .Subscript o2 k2 _] _ _] (.Tuple [l, r] _ _) _ => noSlice k && noSlice k2 && chkE S a o && chkE S i k && chkE S b o2 && chkE S j k2 && chkEs S (.cons x (.cons y .nil)) [l, r]
  | .asgT is e, .Assign [.Tuple ts kk tp] v _ => noComp v && noTup v && chkTg S (.many is) (.Tuple ts kk tp) && chkE S e v
  | .expr e, .Expr v _ => noComp v && chkE S e v
  | .ite t a b, .If x y z _ => chkE S t x && okT x && chkSs S a y && chkSs S b z
  | .for tg src b, .For t it body orelse _ => orelse.isEmpty && chkTg S tg t && chkSrc S src it && noSet it && chkSs S b body
  | .ret e, .Return (some v) _ => chkE S e v
  | .retN, .Return none _ => true
  | .raise cl .nil, .Raise (some (.Call (.Name x _) [] kws _)) none _ => kws.isEmpty && decide (x = Str.ofString cl) && glB S x && decide (cl ∈ S.cls)
  | .raise cl (.cons e r), .Raise (some (.Call (.Name x _) (y :: ys) kws _)) none _ => kws.isEmpty && decide (x = Str.ofString cl) && glB S x && decide (cl ∈ S.xcls) && noStar y && ys.all noStar && chkEs S (.cons e r) (y :: ys)
  | .never, _ => true
  | _, _ => false
def chkSs (S : SE) : PL.Ss → List Stmt → Bool
  | .nil, [] => true
  | .cons s r, x :: xs => chkS S s x && chkSs S r xs
  | _, _ => false
end
section
variable {G : GS} {c : PL.Ctx} {E : XK} {S : SE} {X : Cx}
theorem kind_of (F : XF G E S X c) (h : isFun S = true) : X.env.blockKind = .function ∧ ∀ id, X.env.kindOf id = S.sc.names.lookup id := by
  have hb : X.env.scope = S.sc := F.sc
  have hk : S.sc.kind = .function := by
    unfold isFun at h
    split at h
    · assumption
    · cases h
  refine ⟨?_, fun id => by unfold Env.kindOf; rw [hb]⟩
  unfold Env.blockKind
  rw [hb, hk]
  rfl
theorem stars_of : ∀ {vs : List Expr}, vs.all noStar = true → (vs.any fun | .Starred .. => true | _ => false) = false
  | [], _ => rfl
  | v :: vs, h => by
    have k := (Bool.and_eq_true ..).mp (List.all_cons ▸ h : (noStar v && vs.all noStar) = true)
    rw [List.any_cons, stars_of k.2]
    cases v <;> first | rfl | cases k.1
theorem swap_two (F : XF G E S X c) (hf : isFun S = true) {x y : Str} {px py pt pt2 : Pos} {kt k2 : Nat} {a b : Expr} (hx : locB S x = true) (hy : locB S y = true) (hl : (py.line == px.line) = true) (ne : x ≠ y) (hw : someWork [a, b] = true) :
    swappedStores [.Tuple [.Name x px, .Name y py] kt pt] (.Tuple [a, b] k2 pt2) X.env = pure (some [x, y]) := by
  obtain ⟨h1, h2⟩ := kind_of F hf
  unfold someWork at hw
  simp only [Bool.and_eq_true, Bool.not_eq_true'] at hw
  obtain ⟨⟨w1, w2⟩, w3⟩ := hw
  have e1 : S.sc.names.lookup x = some .local := of_decide_eq_true hx
  have e2 : S.sc.names.lookup y = some .local := of_decide_eq_true hy
  unfold swappedStores
  simp [h1, h2, e1, e2, stars_of w1, w2, w3, Expr.pos, hl, eq_of_beq hl, List.eraseDups_cons, ne.symm, ne]
  intro h
  exfalso
  simp only [List.all_cons, Bool.and_eq_true] at w1
  rcases h with h | h
  · cases a <;> first | exact absurd h Bool.false_ne_true | exact absurd w1.1 Bool.false_ne_true
  · cases b <;> first | exact absurd h Bool.false_ne_true | exact absurd w1.2.1 Bool.false_ne_true
theorem swap_three (F : XF G E S X c) (hf : isFun S = true) {x y z : Str} {px py pz pt pt2 : Pos} {kt k2 : Nat} {a b d : Expr} (hx : locB S x = true) (hy : locB S y = true) (hz : locB S z = true) (hl : (py.line == px.line) = true) (hm : (pz.line == px.line) = true) (ne : x ≠ y) (n2 : x ≠ z) (n3 : y ≠ z) (hw : someWork [a, b, d] = true) :
    swappedStores [.Tuple [.Name x px, .Name y py, .Name z pz] kt pt] (.Tuple [a, b, d] k2 pt2) X.env = pure (some [x, y, z]) := by
  obtain ⟨h1, h2⟩ := kind_of F hf
  unfold someWork at hw
  simp only [Bool.and_eq_true, Bool.not_eq_true'] at hw
  obtain ⟨⟨w1, w2⟩, w3⟩ := hw
  have e1 : S.sc.names.lookup x = some .local := of_decide_eq_true hx
  have e2 : S.sc.names.lookup y = some .local := of_decide_eq_true hy
  have e3 : S.sc.names.lookup z = some .local := of_decide_eq_true hz
  unfold swappedStores
  simp [h1, h2, e1, e2, e3, stars_of w1, w2, w3, Expr.pos, eq_of_beq hl, eq_of_beq hm, List.eraseDups_cons, ne.symm, ne, n2, n2.symm, n3, n3.symm]
  intro h
  exfalso
  simp only [List.all_cons, Bool.and_eq_true] at w1
  rcases h with h | h | h
  · cases a <;> first | exact absurd h Bool.false_ne_true | exact absurd w1.1 Bool.false_ne_true
  · cases b <;> first | exact absurd h Bool.false_ne_true | exact absurd w1.2.1 Bool.false_ne_true
  · cases d <;> first | exact absurd h Bool.false_ne_true | exact absurd w1.2.2.1 Bool.false_ne_true
theorem swap_not (F : XF G E S X c) (hf : isFun S = true) {ts vs : List Expr} {pt pt2 : Pos} {kt k2 : Nat} (h : (ts.length = 2 ∨ ts.length = 3) → (ts.filterMap fun
      | .Name id pos => if X.env.kindOf id == some .local && pos.line == (ts.head?.map (·.pos.line)).getD 0 then some id else none
      | _ => none).length ≠ ts.length) :
    swappedStores [.Tuple ts kt pt] (.Tuple vs k2 pt2) X.env = pure none := by
  unfold swappedStores
  by_cases h1 : ts.length = 2 ∨ ts.length = 3
  · have h2 := h h1
    show (if _ then _ else _) = _
    split
    · rfl
    · split
      · rfl
      · show (if (bne _ _ || _) = true then _ else _) = _
        rw [if_pos]
        rw [Bool.or_eq_true]
        exact .inl (bne_iff_ne.mpr h2)
  · show (if _ then _ else _) = _
    rw [if_pos]
    simp only [not_or] at h1
    simp [h1.1, h1.2]
theorem tgs_of (F : XF G E S X c) : ∀ {is : List (Nat × Bool)} {es : List Expr}, is.length = es.length → ((is.zip es).all fun p => match p.2 with
      | .Name x _ => storeB S p.1.1 x
      | _ => false) = true → PGs X es (gNames (is.map (·.1))) ∧ (assignEach es X.env).length = is.length ∧ (assignEach es X.env).findIdx? (·.1) = none ∧ ∀ i ∈ is, i.1 ∉ G.IO
  | [], es, e, _ => by
    obtain rfl := List.eq_nil_of_length_eq_zero e.symm
    exact ⟨pgs_nil, rfl, rfl, fun i hi => by cases hi⟩
  | i :: is, [], e, _ => by cases e
  | i :: is, y :: es, e, h => by
    have nd : X.N.Nodup := by rw [F.N]; exact F.nd
    rw [List.zip_cons_cons, List.all_cons, Bool.and_eq_true] at h
    obtain ⟨g1, g2, g3, g4⟩ := tgs_of F (is := is) (es := es) (by simpa using e) h.2
    obtain ⟨x, p, rfl⟩ : ∃ x p, y = .Name x p := by
      cases y <;> (first | exact ⟨_, _, rfl⟩ | exact absurd h.1 (by simp))
    obtain ⟨h1, h2, h3, h4⟩ := store_of F h.1
    refine ⟨pgs_cons (pg_name nd h1 h2 h3) g1 rfl, ?_, ?_, fun j hj => (List.mem_cons.mp hj).elim (fun q => by rw [q]; exact h4) (g4 j)⟩
    · show ((false, assign (.Name x p) X.env) :: assignEach es X.env).length = _
      rw [List.length_cons, List.length_cons, g2]
    · show ((false, assign (.Name x p) X.env) :: assignEach es X.env).findIdx? (·.1) = none
      rw [List.findIdx?_cons, g3]
      rfl
theorem sole_tup {ts : List Expr} {vs : List Expr} {k k2 : Nat} {p p2 : Pos} {n : Nat} {env : Env} : swapsWithSole [.Tuple ts k p] (.Tuple vs k2 p2) n env = pure false := rfl
theorem ind_of (F : XF G E S X c) {i j : Nat} {x y : Str} (h1 : storeB S i x = true) (h2 : storeB S j y = true) (h : i ≠ j) : True := trivial
theorem not_loc (F : XF G E S X c) (hf : isFun S = true) {x : Str} {p : Pos} {n : Nat} (h : locB S x = false) : (if X.env.kindOf x == some .local && p.line == n then some x else none) = none := by
  rw [(kind_of F hf).2]
  have : S.sc.names.lookup x ≠ some .local := of_decide_eq_false h
  rw [if_neg]
  rw [Bool.and_eq_true]
  intro z
  exact this (eq_of_beq z.1)
theorem s_par (F : XF G E S X c) {is : List (Nat × Bool)} {es : PL.Es} {ts vs : List Expr} {k k2 : Nat} {p p2 pos : Pos} (h1 : parB S is ts = true) (h2 : chkAs S (is.map (·.2)) es vs = true) (h3 : parK S ts vs = true) : PS X (.Assign [.Tuple ts k p] (.Tuple vs k2 p2) pos) (tS G E (PL.execS c (.par is es))) := by
  have nd : X.N.Nodup := by rw [F.N]; exact F.nd
  simp only [parB, Bool.and_eq_true, decide_eq_true_eq] at h1
  obtain ⟨⟨⟨el, few⟩, hn⟩, hall⟩ := h1
  obtain ⟨g1, g2, g3, g4⟩ := tgs_of F el hall
  have A := okAs (is.map (·.2)) es S X E vs F h2
  simp only [parK, Bool.and_eq_true, decide_eq_true_eq] at h3
  obtain ⟨⟨hf, elv⟩, h3⟩ := h3
  have T : swappedStores [.Tuple ts k p] (.Tuple vs k2 p2) X.env = pure none → PS X (.Assign [.Tuple ts k p] (.Tuple vs k2 p2) pos) (tS G E (PL.execS c (.par is es))) := fun hw =>
    s_parT F.calm hn g4 few A g1 g2 g3 hw sole_tup rfl
  split at h3
  · rename_i x px y py
    rcases is with _ | ⟨⟨i, oi⟩, _ | ⟨⟨j, oj⟩, _ | ⟨_, _⟩⟩⟩ <;> (first | (simp at el; done) | skip)
    simp only [List.zip_cons_cons, List.zip_nil_left, List.all_cons, List.all_nil, Bool.and_true, Bool.and_eq_true] at hall
    simp only [List.map_cons, List.map_nil, List.nodup_cons, List.mem_singleton] at hn
    rw [Bool.or_eq_true, Bool.or_eq_true, Bool.not_eq_true', Bool.not_eq_true'] at h3
    rcases vs with _ | ⟨a, _ | ⟨b, _ | ⟨_, _⟩⟩⟩ <;> (first | (simp at elv; done) | skip)
    rcases h3 with (h3 | h3) | h3
    · simp only [Bool.and_eq_true, decide_eq_true_eq] at h3
      obtain ⟨⟨⟨⟨l1, l2⟩, l3⟩, l4⟩, l5⟩ := h3
      obtain ⟨m1, m2, m3, m4⟩ := store_of F hall.1
      obtain ⟨n1, n2, n3, n4⟩ := store_of F hall.2
      exact s_par2 F.calm nd m1 n1 hn.1 m4 n4 (by rw [F.sc]; exact of_decide_eq_true l1) (by rw [F.sc]; exact of_decide_eq_true l2) A (swap_two F hf l1 l2 l3 l4 l5) sole_tup
    · refine T (swap_not F hf fun _ => ?_)
      simp only [List.filterMap_cons, List.filterMap_nil, not_loc F hf h3]
      intro z
      split at z <;> simp at z
    · refine T (swap_not F hf fun _ => ?_)
      simp only [List.filterMap_cons, List.filterMap_nil, not_loc F hf h3]
      intro z
      split at z <;> simp at z
  · rename_i x px y py z pz
    rcases is with _ | ⟨⟨i, oi⟩, _ | ⟨⟨j, oj⟩, _ | ⟨⟨l, ol⟩, _ | ⟨_, _⟩⟩⟩⟩ <;> (first | (simp at el; done) | skip)
    simp only [List.zip_cons_cons, List.zip_nil_left, List.all_cons, List.all_nil, Bool.and_true, Bool.and_eq_true] at hall
    simp only [List.map_cons, List.map_nil, List.nodup_cons, List.mem_cons, List.mem_singleton, not_or] at hn
    rw [Bool.or_eq_true, Bool.or_eq_true, Bool.or_eq_true, Bool.not_eq_true', Bool.not_eq_true', Bool.not_eq_true'] at h3
    rcases vs with _ | ⟨a, _ | ⟨b, _ | ⟨d, _ | ⟨_, _⟩⟩⟩⟩ <;> (first | (simp at elv; done) | skip)
    rcases h3 with ((h3 | h3) | h3) | h3
    · simp only [Bool.and_eq_true, decide_eq_true_eq] at h3
      obtain ⟨⟨⟨⟨⟨⟨⟨⟨l1, l2⟩, l3⟩, l4⟩, l5⟩, l6⟩, l7⟩, l8⟩, l9⟩ := h3
      obtain ⟨m1, m2, m3, m4⟩ := store_of F hall.1
      obtain ⟨n1, n2, n3, n4⟩ := store_of F hall.2.1
      obtain ⟨o1, o2, o3, o4⟩ := store_of F hall.2.2
      exact s_par3 F.calm nd m1 n1 o1 hn.1.1 hn.1.2.1 (by first | exact hn.2.1 | exact hn.2.1.1) m4 n4 o4 (by rw [F.sc]; exact of_decide_eq_true l1) (by rw [F.sc]; exact of_decide_eq_true l2) (by rw [F.sc]; exact of_decide_eq_true l3) A (swap_three F hf l1 l2 l3 l4 l5 l6 l7 l8 l9) sole_tup
    all_goals
      refine T (swap_not F hf fun _ => ?_)
      simp only [List.filterMap_cons, List.filterMap_nil, not_loc F hf h3]
      intro z
      repeat' split at z
      all_goals simp at z
  · rw [decide_eq_true_eq] at h3
    exact T (swap_not F hf fun z => by omega)
end
end PLS
end

section
set_option Elab.async false
set_option linter.all false
set_option maxRecDepth 100000
set_option maxHeartbeats 8000000
/-! the checker is sound for statements -/
namespace PLS
open PySem PySem.Spec PyProof.Rows L2 PySem.W
section
variable {G : GS} {c : PL.Ctx}
theorem swap_subs {o i o2 i2 a b : Expr} {t1 t2 pt pt2 : Pos} {kt k2 : Nat} {env : Env} : swappedStores [.Tuple [.Subscript o i t1, .Subscript o2 i2 t2] kt pt] (.Tuple [a, b] k2 pt2) env = pure none := by
  unfold swappedStores
  show (if _ then _ else _) = _
  split
  · rfl
  · split
    · rfl
    · rfl
theorem sole_of {t v : Expr} {n : Nat} {env : Env} (h : noComp v = true) : swapsWithSole [t] v n env = pure false := swaps_of h
theorem swapped_plain {o i v : Expr} {p : Pos} {env : Env} : swappedStores [.Subscript o i p] v env = pure none := by
  unfold swappedStores
  cases v <;> rfl
theorem swapped_one {es : List Expr} {k : Nat} {p : Pos} {v : Expr} {env : Env} (h : noTup v = true) : swappedStores [.Tuple es k p] v env = pure none := by
  unfold swappedStores
  cases v <;> first | rfl | cases h
theorem own_r {i : Nat} {ra : PL.Ev PL.AV} {E : XK} {D : Ends} {σ : St} {H : Hp} (hio : i ∉ G.IO) (h : tS G E (fun ρ => (ra ρ).bind fun (x, ρ1) => match x with
      | .f y => if i < ρ1.length then .ok (.nx, ρ1.set i (some (.w y))) else .stuck
      | _ => .stuck) D σ H) : tAsg (tE G (wx E) ra) (gName i) D σ H := by
  obtain ⟨Z, ρ, I, o⟩ := h
  refine ⟨Z, ρ, I, o.bind.mono fun av ρ1 o1 v H1 Z1 s1 r1 => ?_⟩
  cases av with
  | f y =>
    obtain ⟨_, o2⟩ := if_ok o1
    obtain ⟨l, rfl, n, nz, no, r⟩ := r1
    exact o2 H1 Z1 _ (s1.fresh hio n nz no r)
  | _ => exact o1.elim
/-- what a statement's soundness stands on -/
structure XS (G : GS) (E : XK) (S : SE) (X : Cx) (c : PL.Ctx) : Prop where
  xf : XF G E S X c
  own : PassesOwn (model X.prog X.w) X.A X.env X.xe
  tk : Takes X (wx E)
  cls : ∀ x ∈ S.cls, ClsOk X (He.ga G.K (Str.ofString x)) (Str.ofString x)
  rai : ∀ x ∈ S.xcls, RaiF X.prog X.w X.K X.mg X.base x
  room : Room 2 X.A
theorem s_lc {S : SE} {X : Cx} {E : XK} (F : XF G E S X c) {i : Nat} {nm : Str} {px : Pos} {own : List Nat} {tg : PL.Tg} {src : PL.Src} {cnd : PL.Oe} {elt : PL.E} {y : Expr} {gens : List Comprehension} {scope : Scope} {q p : Pos} {T : TS} (h1 : storeB S i nm = true) (h2 : lcB S scope nm px (Expr.ListComp y gens scope q).pos = true) (h : chkE S (.comp own tg src cnd elt) (.ListComp y gens scope q) = true)
    (hT : ∀ D σ H, T D σ H → tE G (wx E) (PL.evalE c (.comp own tg src cnd elt)) σ H fun v H1 => gName i v σ H1 D.nx) : PS X (.Assign [.Name nm px] (.ListComp y gens scope q) p) T := by
  obtain ⟨a1, a2, a3, a4⟩ := store_of F h1
  rcases gens with _ | ⟨⟨tgE, iter, ifs, as⟩, _ | ⟨_, _⟩⟩ <;> (first | (cases h; done) | skip)
  simp only [chkE, Bool.and_eq_true, decide_eq_true_eq] at h
  obtain ⟨⟨⟨⟨⟨⟨⟨⟨h0, g1⟩, g2⟩, g3⟩, g4⟩, g5⟩, g6⟩, g7⟩, g8⟩ := h
  subst h0
  have own_eq : (ownN S own).map (·.2) = own := by unfold ownN; rw [List.map_map]; exact List.map_id' own
  have B := fun s H C cl fp => F.blk scope s H C cl fp
  simp only [lcB, Bool.and_eq_true, decide_eq_true_eq] at h2
  obtain ⟨⟨⟨l1, l2⟩, l3⟩, l4⟩ := h2
  obtain ⟨k1, k2⟩ := kind_of F l1
  refine (ps_setLc (own := ownN S own) F.calm (by rw [F.N]; exact F.nd) a1 (by rw [F.sc]; exact l2) ?_ (okSrc src S X E tgE iter F g4) (by rw [F.N, F.sc]; exact blkOk_by g1) (fun s H C cl fp => (tg_of (B s H C cl fp) g6).1) (fun s H C cl fp => okB cnd _ _ _ ifs (B s H C cl fp) g7) (fun s H C cl fp => se_d (okE elt _ _ _ _ (B s H C cl fp) g8).pe) (set_of g5)).imq fun D σ H h => ?_
  · unfold swapsWith
    simp only [k1, k2, l2, l3, l4]
    rfl
  · rw [own_eq]
    have h' := hT D σ H h
    refine comp_r (W0 := wx fun _ _ _ => False) (fun i hi => List.contains_iff_mem.mp (List.all_eq_true.mp g3 i hi)) ?_
    rw [PL.evalE] at h'
    exact h'
theorem s_ownLc {S : SE} {X : Cx} {E : XK} (F : XF G E S X c) {i : Nat} {nm : Str} {px : Pos} {own : List Nat} {tg : PL.Tg} {src : PL.Src} {cnd : PL.Oe} {elt : PL.E} {y : Expr} {gens : List Comprehension} {scope : Scope} {q p : Pos} (h1 : storeB S i nm = true) (h2 : lcB S scope nm px (Expr.ListComp y gens scope q).pos = true) (h : chkE S (.comp own tg src cnd elt) (.ListComp y gens scope q) = true) :
    PS X (.Assign [.Name nm px] (.ListComp y gens scope q) p) (tS G E (PL.execS c (.own i (.comp own tg src cnd elt)))) := s_lc F h1 h2 h fun D σ H h => own_r (store_of F h1).2.2.2 h
theorem s_asgLc {S : SE} {X : Cx} {E : XK} (F : XF G E S X c) {i : Nat} {nm : Str} {px : Pos} {own : List Nat} {tg : PL.Tg} {src : PL.Src} {cnd : PL.Oe} {elt : PL.E} {y : Expr} {gens : List Comprehension} {scope : Scope} {q p : Pos} (h1 : storeB S i nm = true) (h2 : lcB S scope nm px (Expr.ListComp y gens scope q).pos = true) (h : chkE S (.comp own tg src cnd elt) (.ListComp y gens scope q) = true) :
    PS X (.Assign [.Name nm px] (.ListComp y gens scope q) p) (tS G E (PL.execS c (.asg i (.comp own tg src cnd elt)))) := s_lc F h1 h2 h fun D σ H h => evD_r (asg_r (store_of F h1).2.2.2 h)
theorem s_lc2 {S : SE} {X : Cx} {E : XK} (F : XF G E S X c) {i : Nat} {nm : Str} {px : Pos} {own : List Nat} {tg tg1 : PL.Tg} {src src1 : PL.Src} {cnd : PL.Oe} {elt : PL.E} {y : Expr} {gens : List Comprehension} {scope : Scope} {q p : Pos} {T : TS} (h1 : storeB S i nm = true) (h2 : lcB S scope nm px (Expr.ListComp y gens scope q).pos = true) (h : chkE S (.comp2 own tg src tg1 src1 cnd elt) (.ListComp y gens scope q) = true)
    (hT : ∀ D σ H, T D σ H → tE G (wx E) (PL.evalE c (.comp2 own tg src tg1 src1 cnd elt)) σ H fun v H1 => gName i v σ H1 D.nx) : PS X (.Assign [.Name nm px] (.ListComp y gens scope q) p) T := by
  obtain ⟨a1, a2, a3, a4⟩ := store_of F h1
  rcases gens with _ | ⟨⟨tgE, iter, ifs, as⟩, _ | ⟨⟨tgE1, iter1, ifs1, as1⟩, _ | ⟨_, _⟩⟩⟩ <;> (first | (cases h; done) | skip)
  simp only [chkE, Bool.and_eq_true, decide_eq_true_eq] at h
  obtain ⟨⟨⟨⟨⟨⟨⟨⟨⟨⟨⟨⟨⟨⟨h0, h0'⟩, hif⟩, g1⟩, g2⟩, g3⟩, g3'⟩, g4⟩, g5⟩, g6⟩, g4'⟩, g5'⟩, g6'⟩, g7⟩, g8⟩ := h
  subst h0 h0'
  obtain rfl := isEmpty_nil hif
  have own_eq : (ownN S own).map (·.2) = own := by unfold ownN; rw [List.map_map]; exact List.map_id' own
  have B := fun s H C cl fp => F.blk scope s H C cl fp
  simp only [lcB, Bool.and_eq_true, decide_eq_true_eq] at h2
  obtain ⟨⟨⟨l1, l2⟩, l3⟩, l4⟩ := h2
  obtain ⟨k1, k2⟩ := kind_of F l1
  refine (ps_setLc2 (own := ownN S own) (vs1 := tgs tg1) F.calm (by rw [F.N]; exact F.nd) a1 (by rw [F.sc]; exact l2) ?_ (okSrc src S X E tgE iter F g4) (by rw [F.N, F.sc]; exact blkOk_by g1) (by rw [own_eq]; exact fun i hi => List.contains_iff_mem.mp (List.all_eq_true.mp g3' i hi)) (fun s H C cl fp => (tg_of (B s H C cl fp) g6).1) (fun s H C cl fp => pts_nil) (fun s H C cl fp => okSrc src1 _ _ _ tgE1 iter1 (B s H C cl fp) g4') (fun s H C cl fp => (tg_of (B s H C cl fp) g6').1) (fun s H C cl fp => okB cnd _ _ _ ifs1 (B s H C cl fp) g7) (fun s H C cl fp => se_d (okE elt _ _ _ _ (B s H C cl fp) g8).pe) (set_of g5) (fun env => set_of g5')).imq fun D σ H h => ?_
  · unfold swapsWith
    simp only [k1, k2, l2, l3, l4]
    rfl
  · rw [own_eq]
    have h' := hT D σ H h
    refine comp2_r (W0 := wx fun _ _ _ => False) (fun i hi => List.contains_iff_mem.mp (List.all_eq_true.mp g3 i hi)) (fun i hi => List.contains_iff_mem.mp (List.all_eq_true.mp g3' i hi)) ?_
    rw [PL.evalE] at h'
    exact h'
theorem s_ownLc2 {S : SE} {X : Cx} {E : XK} (F : XF G E S X c) {i : Nat} {nm : Str} {px : Pos} {own : List Nat} {tg tg1 : PL.Tg} {src src1 : PL.Src} {cnd : PL.Oe} {elt : PL.E} {y : Expr} {gens : List Comprehension} {scope : Scope} {q p : Pos} (h1 : storeB S i nm = true) (h2 : lcB S scope nm px (Expr.ListComp y gens scope q).pos = true) (h : chkE S (.comp2 own tg src tg1 src1 cnd elt) (.ListComp y gens scope q) = true) :
    PS X (.Assign [.Name nm px] (.ListComp y gens scope q) p) (tS G E (PL.execS c (.own i (.comp2 own tg src tg1 src1 cnd elt)))) := s_lc2 F h1 h2 h fun D σ H h => own_r (store_of F h1).2.2.2 h
theorem s_asgLc2 {S : SE} {X : Cx} {E : XK} (F : XF G E S X c) {i : Nat} {nm : Str} {px : Pos} {own : List Nat} {tg tg1 : PL.Tg} {src src1 : PL.Src} {cnd : PL.Oe} {elt : PL.E} {y : Expr} {gens : List Comprehension} {scope : Scope} {q p : Pos} (h1 : storeB S i nm = true) (h2 : lcB S scope nm px (Expr.ListComp y gens scope q).pos = true) (h : chkE S (.comp2 own tg src tg1 src1 cnd elt) (.ListComp y gens scope q) = true) :
    PS X (.Assign [.Name nm px] (.ListComp y gens scope q) p) (tS G E (PL.execS c (.asg i (.comp2 own tg src tg1 src1 cnd elt)))) := s_lc2 F h1 h2 h fun D σ H h => evD_r (asg_r (store_of F h1).2.2.2 h)
mutual
theorem okSt : ∀ (s : PL.S) (S : SE) (X : Cx) (E : XK) (x : Stmt), XS G E S X c → chkS S s x = true → PS X x (tS G E (PL.execS c s))
  | .asg i e, S, X, E, x, K, h => by
    have F := K.xf
    cases x <;> (first | (cases h; done) | skip)
    rename_i ts v p
    rcases ts with _ | ⟨t, ts⟩ <;> (first | (cases h; done) | skip)
    cases t <;> cases ts <;> (first | (cases h; done) | skip)
    rename_i nm px
    simp only [chkS, Bool.and_eq_true] at h
    obtain ⟨h1, h2⟩ := h
    obtain ⟨a1, a2, a3, a4⟩ := store_of F h1
    have nd : X.N.Nodup := by rw [F.N]; exact F.nd
    split at h2
    · rename_i own tg src cnd elt y gens scope q
      replace h2 := (Bool.and_eq_true ..).mp h2
      exact s_asgLc F h1 h2.1 h2.2
    · rename_i own tg src tg1 src1 cnd elt y gens scope q
      replace h2 := (Bool.and_eq_true ..).mp h2
      exact s_asgLc2 F h1 h2.1 h2.2
    · rw [Bool.and_eq_true] at h2
      exact s_asg a4 nd a1 a2 (okE e S X E v F h2.2).pe (swaps_of h2.1) a3
  | .own i e, S, X, E, x, K, h => by
    have F := K.xf
    cases x <;> (first | (cases h; done) | skip)
    rename_i ts v p
    rcases ts with _ | ⟨t, ts⟩ <;> (first | (cases h; done) | skip)
    cases t <;> cases ts <;> (first | (cases h; done) | skip)
    rename_i nm px
    simp only [chkS, Bool.and_eq_true] at h
    obtain ⟨h1, h2⟩ := h
    obtain ⟨a1, a2, a3, a4⟩ := store_of F h1
    have nd : X.N.Nodup := by rw [F.N]; exact F.nd
    split at h2
    · rename_i own tg src cnd elt y gens scope q
      replace h2 := (Bool.and_eq_true ..).mp h2
      exact s_ownLc F h1 h2.1 h2.2
    · rename_i own tg src tg1 src1 cnd elt y gens scope q
      replace h2 := (Bool.and_eq_true ..).mp h2
      exact s_ownLc2 F h1 h2.1 h2.2
    · rw [Bool.and_eq_true] at h2
      exact s_own a4 nd a1 a2 (okE e S X E v F h2.2).pe (swaps_of h2.1) a3
  | .par is es, S, X, E, x, K, h => by
    have F := K.xf
    cases x <;> (first | (cases h; done) | skip)
    rename_i ts v p
    rcases ts with _ | ⟨t, ts⟩ <;> (first | (cases h; done) | skip)
    cases t <;> cases ts <;> (first | (cases h; done) | skip)
    cases v <;> (first | (cases h; done) | skip)
    simp only [chkS, Bool.and_eq_true] at h
    exact s_par F h.1.1 h.1.2 h.2
  | .setI a i y, S, X, E, x, K, h => by
    have F := K.xf
    cases x <;> (first | (cases h; done) | skip)
    rename_i ts v p
    rcases ts with _ | ⟨t, ts⟩ <;> (first | (cases h; done) | skip)
    cases t <;> cases ts <;> (first | (cases h; done) | skip)
    simp only [chkS, Bool.and_eq_true] at h
    rename_i o ix q
    obtain ⟨⟨⟨⟨h1, h2⟩, h3⟩, h4⟩, h5⟩ := h
    exact s_setI (okE a S X E _ F h3).pe (okE i S X E _ F h4).pe (okE y S X E v F h5).pe (sole_of h1) swapped_plain rfl fun _ _ _ _ z => by subst z; cases h2
  | .asgT is e, S, X, E, x, K, h => by
    have F := K.xf
    cases x <;> (first | (cases h; done) | skip)
    rename_i ts v p
    rcases ts with _ | ⟨t, ts⟩ <;> (first | (cases h; done) | skip)
    cases t <;> cases ts <;> (first | (cases h; done) | skip)
    simp only [chkS, Bool.and_eq_true] at h
    obtain ⟨g1, g2⟩ := tg_of F h.1.2
    exact s_asgT g2 (okE e S X E v F h.2).pe g1 (sole_of h.1.1.1) (swapped_one h.1.1.2) rfl
  | .expr e, S, X, E, x, K, h => by
    have F := K.xf
    cases x <;> (first | (cases h; done) | skip)
    simp only [chkS, Bool.and_eq_true] at h
    exact s_expr (okE e S X E _ F h.2).pe (swaps_of h.1)
  | .ite t a b, S, X, E, x, K, h => by
    have F := K.xf
    cases x <;> (first | (cases h; done) | skip)
    simp only [chkS, Bool.and_eq_true] at h
    exact s_ite ((okE t S X E _ F h.1.1.1).pt h.1.1.2) (okSts a S X E _ K h.1.2) (okSts b S X E _ K h.2)
  | .for tg src b, S, X, E, x, K, h => by
    have F := K.xf
    cases x <;> (first | (cases h; done) | skip)
    simp only [chkS, Bool.and_eq_true] at h
    obtain ⟨⟨⟨⟨h1, h2⟩, h3⟩, h4⟩, h5⟩ := h
    obtain rfl := isEmpty_nil h1
    obtain ⟨g1, g2⟩ := tg_of F h2
    exact s_for g2 K.own F.calm (okSrc src S X E _ _ F h3) g1 (okSts b S X E _ K h5) (set_of h4)
  | .ret e, S, X, E, x, K, h => by
    have F := K.xf
    cases x <;> (first | (cases h; done) | skip)
    rename_i v p
    cases v <;> (first | (cases h; done) | skip)
    exact s_ret (okE e S X E _ F (by simpa only [chkS] using h)).pe
  | .retN, S, X, E, x, K, h => by
    cases x <;> (first | (cases h; done) | skip)
    rename_i v p
    cases v <;> (first | (cases h; done) | skip)
    exact s_retN
  | .never, S, X, E, x, K, h => ps_never.imq fun D σ H h => by
    obtain ⟨Z, ρ, I, o⟩ := h
    exact o
  | .setT a i b j y z, S, X, E, x, K, h => by
    have F := K.xf
    cases x <;> (first | (cases h; done) | skip)
    rename_i ts v p
    rcases ts with _ | ⟨t, ts⟩ <;> (first | (cases h; done) | skip)
    cases t <;> (first | (cases h; done) | (cases ts <;> cases h; done) | skip)
    rename_i tt kt pt
    rcases tt with _ | ⟨s1, _ | ⟨s2, _ | ⟨_, _⟩⟩⟩ <;> (first | (cases h; done) | (cases s1 <;> (first | (cases h; done) | (cases s2 <;> (first | (cases h; done) | skip)))))
    cases ts <;> (first | (cases h; done) | skip)
    cases v <;> (first | (cases h; done) | skip)
    rename_i vs kv pv
    rcases vs with _ | ⟨l, _ | ⟨r, _ | ⟨_, _⟩⟩⟩ <;> (first | (cases h; done) | skip)
    simp only [chkS, Bool.and_eq_true] at h
    obtain ⟨⟨⟨⟨⟨⟨q1, q2⟩, q3⟩, q4⟩, q5⟩, q6⟩, q7⟩ := h
    exact s_setT F.calm (okEs (.cons y (.cons z .nil)) S X E [l, r] F (by simpa only [chkEs, Bool.and_eq_true] using q7)) (okE a S X E _ F q3).pe (okE i S X E _ F q4).pe (okE b S X E _ F q5).pe (okE j S X E _ F q6).pe
      (fun _ _ _ _ e => by subst e; cases q1) (fun _ _ _ _ e => by subst e; cases q2) swap_subs
  | .setF .., S, X, E, x, K, h => by cases x <;> cases h
  | .setdefA .., S, X, E, x, K, h => by cases x <;> cases h
  | .setdefL .., S, X, E, x, K, h => by cases x <;> cases h
  | .whl .., S, X, E, x, K, h => by cases x <;> cases h
  | .raise cl (.star _ _), S, X, E, x, K, h => by cases x <;> cases h
  | .raise cl .nil, S, X, E, x, K, h => by
    cases x <;> (first | (cases h; done) | skip)
    rename_i e0 c0 p0
    rcases e0 with _ | e0 <;> (first | (cases h; done) | skip)
    cases e0 <;> (first | (cases h; done) | skip)
    rename_i f0 as kws q0
    cases f0 <;> (first | (cases h; done) | skip)
    cases as <;> (first | (cases h; done) | skip)
    cases c0 <;> (first | (cases h; done) | skip)
    simp only [chkS, Bool.and_eq_true, decide_eq_true_eq] at h
    obtain ⟨⟨⟨h0, rfl⟩, h2⟩, h3⟩ := h
    obtain rfl := isEmpty_nil h0
    obtain ⟨g1, g2, g3⟩ := gl_of K.xf h2
    exact s_raise0 K.xf.calm K.tk (K.cls cl h3) g1 g2
  | .raise cl (.cons e r), S, X, E, x, K, h => by
    cases x <;> (first | (cases h; done) | skip)
    rename_i e0 c0 p0
    rcases e0 with _ | e0 <;> (first | (cases h; done) | skip)
    cases e0 <;> (first | (cases h; done) | skip)
    rename_i f0 as kws q0
    cases f0 <;> (first | (cases h; done) | skip)
    rcases as with _ | ⟨y, ys⟩ <;> (first | (cases h; done) | skip)
    cases c0 <;> (first | (cases h; done) | skip)
    simp only [chkS, Bool.and_eq_true, decide_eq_true_eq] at h
    obtain ⟨⟨⟨⟨⟨⟨h0, rfl⟩, h2⟩, h3⟩, h4⟩, h5⟩, h6⟩ := h
    obtain rfl := isEmpty_nil h0
    obtain ⟨g1, g2, g3⟩ := gl_of K.xf h2
    rw [PL.execS]
    exact s_raise2 K.xf.gx K.xf.calm K.tk (K.rai cl h3) K.room rfl g1 g2 (okEs (.cons e r) S X E _ K.xf h6) (star_of h4) (plain_rest h5)
  | .lamdef .., S, X, E, x, K, h => by cases x <;> cases h
  | .fz .., S, X, E, x, K, h => by cases x <;> cases h
theorem okSts : ∀ (s : PL.Ss) (S : SE) (X : Cx) (E : XK) (xs : List Stmt), XS G E S X c → chkSs S s xs = true → PSs X xs (tS G E (PL.execSs c s))
  | .nil, S, X, E, xs, K, h => by
    cases xs with
    | nil => exact ss_nil
    | cons _ _ => cases h
  | .cons s r, S, X, E, xs, K, h => by
    have F := K.xf
    cases xs with
    | nil => cases h
    | cons y ys =>
      simp only [chkSs, Bool.and_eq_true] at h
      exact ss_cons (okSt s S X E y K h.1) (okSts r S X E ys K h.2)
end
end
end PLS
end

section
set_option Elab.async false
set_option linter.all false
set_option maxRecDepth 100000
set_option maxHeartbeats 4500000
/-! the main theorem: every def of the module keeps what the interpreter says -/
namespace PLS
open PySem PySem.Spec PyProof.Rows L2 PySem.W
/-- a module: what its defs are said to be -/
structure Mod where
  G : GS
  mg : Str → Option Value
  base : Heap
  prog : PL.Prog
  wf : Nat
  con : List (String × Int)
  fns : List String
  blt : List Str
  cls : List String
  lams : List String
  tl : List String
  xcls : List String
def Mod.ad (M : Mod) (f : String) : Addr := He.ga M.G.K (Str.ofString f)
def Mod.ioOf (M : Mod) (g : String) : Option (List Bool) := (M.prog.get g).map (·.io)
def Mod.se (M : Mod) (f : String) (N : List Str) (sc : Scope) (IO : List Nat) : SE := ⟨N, sc, fun _ => true, IO, M.con, M.fns, M.blt, M.ioOf, M.cls, M.lams.contains f, M.tl, M.xcls⟩
/-- the code object of a def, its table, what its lambdas are called -/
def Mod.code (M : Mod) (f : String) : Addr := He.codeOf M.G.K (Str.ofString f, none)
def lamQ (f : String) : Str := Str.ofString f ++ ".<locals>." ++ "<lambda>"
def Mod.gs (M : Mod) (IO : List Nat) : GS := { M.G with IO := IO }
/-- plain parameters -/
def plainA (a : Arguments) (ps : List Str) : Bool := match a with
  | ⟨[], args, none, [], [], none, []⟩ => decide (args.map (·.arg) = ps) && decide ps.Nodup
  | _ => false
/-- a def -/
structure DefI (M : Mod) (f : String) (d : PL.Def) (fd : FuncData) (ps N : List Str) (IO : List Nat) : Prop where
  ex : ∃ (params : Arguments) (body : List Stmt) (scope : Scope) (kws : List (Str × V)),
    FunD M.G.K (Str.ofString f) (Str.ofString f) params body scope [] kws (M.ad f) fd ∧ C8.scC N ps scope = true ∧ chkSs (M.se f N scope IO) d.body body = true ∧ plainA params ps = true
  ns : N.length = d.ns
  len : ps.length = d.io.length
  io : ∀ k : Nat, d.io[k]? = some true → k ∈ IO
  binds : Binds M.G.K fd ps []
  glob : M.mg (Str.ofString f) = some (.ref (M.ad f))
  keep : PySem.W.keepIn M.G.K (.ref (M.ad f)) = true
structure ModOk (M : Mod) : Prop where
  con : ∀ x i, M.con.lookup x = some i → ∃ t, M.mg (Str.ofString x) = some (.int i t)
  fnv : ∀ x ∈ M.fns, M.mg (Str.ofString x) = some (.ref (M.ad x))
  blt : ∀ x ∈ M.blt, M.mg x = none
  cls : ∀ x ∈ M.cls, (∃ (B newId initId : String) (bmB : List Value), ExcBaseFacts B newId initId bmB ∧ PySem.W.excIn M.G.K (M.ad x) bmB newId = true) ∧ M.mg (Str.ofString x) = some (.ref (M.ad x)) ∧ PySem.W.keepIn M.G.K (.ref (M.ad x)) = true ∧
    PySem.W.subIn M.G.K (.ref (M.ad x)) (.type "BaseException") = some true ∧ PySem.W.typeIn M.G.K (.ref (M.ad x)) = some (.type "type")
  defs : ∀ f d, M.prog.get f = some d → ∃ fd ps N IO, DefI M f d fd ps N IO
  told : ∀ f t, M.prog.tolds.lookup f = some t → ToldF M.G.K M.mg f t
  rai : ∀ x ∈ M.xcls, RaiF M.G.P M.G.w M.G.K M.mg M.base x
  lam : ∀ f ∈ M.lams, LamX.TabB M.base M.mg (M.code f) (He.tabOf M.G.K (M.code f)) ∧ (He.tabOf M.G.K (M.code f), lamQ f) ∈ M.G.T ∧ ∀ p ∈ M.G.T, p.1 = He.tabOf M.G.K (M.code f) → p.2 = lamQ f
/-- what holds of a def at a depth -/
def Holds (M : Mod) (n : Nat) : Prop := ∀ f d, M.prog.get f = some d → ∃ fd ps N IO, DefI M f d fd ps N IO ∧ FnOk M.G.P M.G.w M.G.K M.mg M.base (L2.CX M.G.P M.G.w) (3 * n) (M.ad f) fd ps (spF (M.gs IO) (PL.callF M.prog M.wf n f))
theorem sp_len {G : GS} {d : PL.Def} {body : PL.Ev PL.Fl} {vs : List V} {H : Hp} {Q : VK} {E : XK} (h : spF G (PL.bodyR d body) vs H Q E) : vs.length = d.io.length := by
  obtain ⟨Z, ss, nol, I, h⟩ := h
  have hl : vs.length = ss.length := by have := I.len; rwa [List.length_map, List.length_map] at this
  by_cases hok : PL.okArgs d.io ss = true
  · rw [hl, okArgs_len hok]
  · unfold PL.bodyR at h
    rw [if_neg hok] at h
    exact h.elim
theorem sp_none {G : GS} {vs : List V} {H : Hp} {Q : VK} {E : XK} (h : spF G (fun _ => .stuck) vs H Q E) : False := by
  obtain ⟨Z, ss, nol, I, h⟩ := h
  exact h
/-- the rule of a def, its code object told -/
theorem funD_ok {P : Program} {w : World} {K : PySem.W.Frag} {mg : Str → Option Value} {base : Heap} {x qual : Str} {params : Arguments} {body : List Stmt} {scope : Scope} {kws : List (Str × V)} {fd : FuncData} {CX : CXT} {N ps : List Str} {k : Nat} {sp : Sp}
    (F : FunD K x qual params body scope [] kws (He.ga K x) fd) (S : FnScope N ps scope) (len : ∀ vs H Q E, sp vs H Q E → vs.length = ps.length)
    (hbody : ∀ (cdv : Value) (A : Around) (outer : List Env) (s : Shared) (H : Hp) (vs : List V) (Q : VK) (E : XK), cdv = .ref (He.codeOf K (x, none)) → Room k (A.deeper (envOfC qual scope s.heap.objs.size (He.ga K x) cdv)) → sp vs H Q E →
      ∃ t, PSs (cxOf CX P w K mg base N qual scope (He.ga K x) cdv A outer s H E) body t ∧ t { nx := fun _ H' => Q .non H', rt := Q } (L2.start N vs) H) : FnOk P w K mg base CX (k + 1) (He.ga K x) fd ps sp := by
  obtain ⟨oc, od, dV, kV, doc, pm, an, cdv, ct, osl, rfl, lk, hcd, _, _⟩ := F.ex
  obtain ⟨c, rfl⟩ := He.codeIn_ref hcd
  have e : He.codeOf K (x, none) = c := He.codeOf_eq (p := (x, none)) lk rfl
  exact fn_of lk hcd S len fun A outer s H vs Q E hr hsp => hbody _ A outer s H vs Q E (by rw [e]) hr hsp
theorem holds (M : Mod) (K : ModOk M) : ∀ n, Holds M n
  | 0, f, d, hf => by
    obtain ⟨fd, ps, N, IO, D⟩ := K.defs f d hf
    exact ⟨fd, ps, N, IO, D, fun vs H Q E h => (sp_none h).elim, fun A outer s H args us vs Q E hr he hb hv hs => (sp_none hs).elim⟩
  | n + 1, f, d, hf => by
    obtain ⟨fd, ps, N, IO, D⟩ := K.defs f d hf
    refine ⟨fd, ps, N, IO, D, ?_⟩
    obtain ⟨params, body, scope, kws, F, sc, ck, _⟩ := D.ex
    have S := C8.fnScope_by sc
    have e : PL.callF M.prog M.wf (n + 1) f = PL.bodyR d (PL.execSs ⟨M.ioOf, PL.callF M.prog M.wf n, fun g => M.prog.tolds.lookup g, M.wf⟩ d.body) := by
      funext args
      show (match M.prog.get f with
        | none => _
        | some d => _) = _
      rw [hf]
      rfl
    rw [e]
    show FnOk _ _ _ _ _ _ (3 * n + 2 + 1) _ _ _ _
    refine funD_ok F S (fun vs H Q E h => by rw [sp_len h, D.len]) fun cdv A outer s H vs Q E hcode hr hsp => ?_
    refine ⟨_, okSts d.body (M.se f N scope IO) _ E body (G := M.gs IO) ?_ ck, entry D.ns D.io hsp⟩
    have tk : Takes (cxOf (L2.CX M.G.P M.G.w) M.G.P M.G.w M.G.K M.mg M.base N (Str.ofString f) scope (M.ad f) cdv A outer s H E) (wx E) := takes_of rfl rfl rfl rfl
    refine ⟨?_, passes_of rfl, tk, fun x hx => ?_, fun x hx => K.rai x hx, hr.mono (by omega)⟩
    · exact {
        gx := ⟨rfl, rfl, rfl, by have := hr.un; show (A.deeper _).units + 100 < cLine; omega⟩
        calm := rfl
        nd := S.nd
        N := rfl
        sc := rfl
        st := fun _ _ => rfl
        io := fun _ h => h
        con := K.con
        fnv := K.fnv
        blt := K.blt
        cio := rfl
        call := ⟨3 * n, hr.mono (by omega), fun hl => by
          have hl : f ∈ M.lams := List.contains_iff_mem.mp hl
          obtain ⟨l1, l2, l3⟩ := K.lam f hl
          exact ⟨⟨_, _, l1, hcode, l2, l3⟩, hr⟩, fun g bs hg => by
          change M.ioOf g = some bs at hg
          unfold Mod.ioOf at hg
          cases q : M.prog.get g with
          | none => rw [q] at hg; cases hg
          | some d' =>
            obtain ⟨fd', ps', N', IO', D', O⟩ := holds M K n g d' q
            exact ⟨fd', ps', M.gs IO', ⟨rfl, rfl, rfl, rfl⟩, O, D'.glob, D'.keep, D'.binds⟩⟩
        told := fun g t hg => K.told g t hg
        px := passes_call tk fun _ _ _ _ h => h }
    · obtain ⟨h1, h2, h3, h4, h5⟩ := K.cls x hx
      exact ⟨h1, h2, h3, raises_own h4 h5⟩
end PLS
end

section
set_option Elab.async false
set_option linter.all false
set_option maxRecDepth 100000
set_option maxHeartbeats 4500000
/-! what the head tells of own exceptions with fields -/
namespace PLS
open PySem PySem.Spec PyProof.Rows L2 PySem.W
/-- an own exception with two fields: its __init__ as it is written -/
structure XClsD where
  name : String
  sn : String
  n1 : String
  n2 : String
  qual : Str
  params : Arguments
  body : List Stmt
  scope : Scope
abbrev IW : Type := Option (Str × Str × Arguments × FuncBody × Scope × Addr × List Str × Addr)
def XClsD.val (x : XClsD) : IW := some ("__init__", x.qual, x.params, .stmts x.body, x.scope, mainGlobals, ["__class__"], builtinsNs)
def XClsD.at_ (K : PySem.W.Frag) (x : XClsD) : Addr := He.ma K (He.ga K (Str.ofString x.name)) "__init__"
def XClsD.seen (K : PySem.W.Frag) (x : XClsD) : IW := match K.lookup (x.at_ K) with
  | some ⟨_, _, .func fd, _⟩ => some (fd.name, fd.qualname, fd.params, fd.body, fd.scope, fd.globals, fd.closure.map (·.1), fd.builtins)
  | _ => none
/-- its body -/
def initShape (sn n1 n2 : Str) : List Stmt → Bool
  | [.Expr (.Call (.Attribute (.Call (.Name su _) [] [] _) ini p2) [.BinOp (.Constant (.str msg) _ _) .Add (.Name w _) _] [] p6) _, .Assign [.Attribute (.Name s1 _) f1 _] (.Name v1 _) _, .Assign [.Attribute (.Name s2 _) f2 _] (.Name v2 _) _] =>
    decide (su = ("super" : Str)) && decide (ini = ("__init__" : Str)) && (p2.endLine == p6.line) && decide (msg.length ≤ 1000) && decide (w = n1) && decide (s1 = sn) && decide (f1 = n1) && decide (v1 = n1) && decide (s2 = sn) && decide (f2 = n2) && decide (v2 = n2)
  | _ => false
def initScB (N : List Str) (sc : Scope) : Bool := decide (sc.kind = .function) && !sc.isCoroutine && !sc.isGenerator && sc.names.all (fun y => !decide (y.2 = .cell)) && sc.names.all (fun y => !decide (y.2 = .free) || decide (y.1 = ("__class__" : Str))) &&
  decide (sc.names.lookup ("__class__" : Str) = some .free) && decide (sc.names.lookup ("super" : Str) = some .globalImplicit) && N.all (fun x => decide (sc.names.lookup x = some .local)) && decide N.Nodup
theorem initS_by {N : List Str} {sc : Scope} (h : initScB N sc = true) : InitS sc N := by
  unfold initScB at h
  simp only [Bool.and_eq_true, Bool.or_eq_true, Bool.not_eq_true', decide_eq_true_eq, decide_eq_false_iff_not, List.all_eq_true] at h
  obtain ⟨⟨⟨⟨⟨⟨⟨⟨h1, h2⟩, h3⟩, h4⟩, h5⟩, h6⟩, h7⟩, h8⟩, h9⟩ := h
  exact ⟨h1, h2, h3, h4, fun y hy e => (h5 y hy).resolve_left fun z => z e, h6, h7, h8, h9⟩
def notD (x : Str) : Bool := !(x == ("__debug__" : Str)) && !(x == ("__classdict__" : Str))
/-- the text is as it must be -/
def XClsD.ok (x : XClsD) : Bool := decide (PL.flds x.name = [x.n1, x.n2]) && initShape (Str.ofString x.sn) (Str.ofString x.n1) (Str.ofString x.n2) x.body && initScB [Str.ofString x.sn, Str.ofString x.n1, Str.ofString x.n2] x.scope && plainA x.params [Str.ofString x.sn, Str.ofString x.n1, Str.ofString x.n2] &&
  notD (Str.ofString x.sn) && notD (Str.ofString x.n1) && notD (Str.ofString x.n2)
def oexB (K : PySem.W.Frag) (C : Addr) : Bool := (match K.lookup C with
    | some ⟨.type "type", _, .cls cd, sl⟩ => (match cd.mro, sl.toList with
      | .ref C' :: bm, [_, _, _, _, some (.builtin n), _] => decide (C' = C) && decide (n = "ValueError.__new__") && !cd.hasDel && cd.hasDict && PySem.HandSPX.refsVE bm
      | _, _ => false)
    | _ => false) && decide (PySem.W.findIn K (.ref C) "__setattr__" = some (some (.builtin "object.__setattr__"))) && decide (PySem.W.subIn K (.ref C) (.type "BaseException") = some true) && decide (PySem.W.typeIn K (.ref C) = some (.type "type")) && PySem.W.keepIn K (.ref C)
theorem oexB_ok {K : PySem.W.Frag} {C : Addr} (h : oexB K C = true) : OexC K C := by
  unfold oexB at h
  simp only [Bool.and_eq_true, decide_eq_true_eq] at h
  obtain ⟨⟨⟨⟨h1, h2⟩, h3⟩, h4⟩, h5⟩ := h
  refine ⟨?_, h2, h3, h4, h5⟩
  split at h1
  · rename_i dd cd sl ho
    split at h1
    · rename_i C' bm k0 k1 k2 k3 n k5 hm hs
      simp only [Bool.and_eq_true, Bool.not_eq_true', decide_eq_true_eq] at h1
      obtain ⟨⟨⟨⟨rfl, rfl⟩, hd⟩, hh⟩, hv⟩ := h1
      obtain ⟨nm, bs, mro, ns, qn, hdct, sn, sub, ab, col, del⟩ := cd
      dsimp only at hm hd hh
      subst hm hd hh
      have hsl : sl = #[k0, k1, k2, k3, some (.builtin "ValueError.__new__"), k5] := by
        obtain ⟨l⟩ := sl
        simp only at hs
        rw [hs]
      subst hsl
      exact ⟨nm, qn, ns, bs, bm, sn, sub, ab, col, dd, k0, k1, k2, k3, k5, ho, hv⟩
    · cases h1
  · cases h1
/-- the code object names the program's own file -/
def fileB (P : Program) (K : PySem.W.Frag) : Value → Bool
  | .ref cda => match K.lookup cda with
    | some ⟨_, _, .fields vs, _⟩ => match (vs : Array Value)[2]? with
      | some (Value.str file _) => ((P.main.file : Str) == file)
      | _ => false
    | _ => false
  | _ => false
/-- the cell of __class__ holds the class -/
def cell1B (K : PySem.W.Frag) (C cc : Addr) : Bool := match K.lookup cc with
  | some ⟨_, _, .cell (some (.ref D)), _⟩ => decide (D = C)
  | _ => false
def cellB (K : PySem.W.Frag) (C : Addr) : List (Str × Addr) → Bool
  | [(_, cc)] => cell1B K C cc
  | _ => false
/-- what stands behind it -/
def raiB (P : Program) (K : PySem.W.Frag) (x : XClsD) : Bool := (match K.lookup (x.at_ K) with
    | some ⟨_, _, .func fd, _⟩ => decide (fd.defaults = .none) && PySem.W.codeIn K fd.code fd.qualname && fileB P K fd.code && cellB K (He.ga K (Str.ofString x.name)) fd.closure
    | _ => false) && (clsIn K (He.ga K (Str.ofString x.name))).isSome && decide (mroIn K (He.ga K (Str.ofString x.name)) (.ref (He.ga K (Str.ofString x.name))) = some true) && decide (nsIn K cStatics "thirdparty.any" = some none) &&
  decide (ks_superIn K (He.ga K (Str.ofString x.name)) (He.ga K (Str.ofString x.name)) "__init__" = some (some (.builtin "ValueError.__init__"))) && decide (subIn K (.ref (He.ga K (Str.ofString x.name))) (.type "ValueError") = some true) && !(P.main.scope.names.lookup ("super" : Str)).isSome && oexB K (He.ga K (Str.ofString x.name)) &&
  decide (PySem.W.findIn K (.ref (He.ga K (Str.ofString x.name))) "__init__" = some (some (.ref (x.at_ K)))) && decide (PySem.W.typeIn K (.ref (x.at_ K)) = some (.type "function")) && decide (PySem.W.findIn K (.ref (He.ga K (Str.ofString x.name))) (Str.ofString x.n1) = some none) && decide (PySem.W.findIn K (.ref (He.ga K (Str.ofString x.name))) (Str.ofString x.n2) = some none) &&
  decide (nsIn K mainGlobals "super" = some none) && decide (nsIn K mainGlobals (Str.ofString x.name) = some (some (.ref (He.ga K (Str.ofString x.name)))))
theorem closure_one {l : List (Str × Addr)} (h : l.map (·.1) = [("__class__" : Str)]) : ∃ cc : Addr, l = [(("__class__" : Str), cc)] := by
  rcases l with _ | ⟨⟨a, c⟩, _ | ⟨_, _⟩⟩
  · cases h
  · simp only [List.map_cons, List.map_nil, List.cons.injEq, and_true] at h
    exact ⟨c, by rw [h]⟩
  · simp at h
/-- each is found at its place -/
theorem look_zip {β : Type} : ∀ {ps : List Str} {us : List β}, ps.Nodup → us.length = ps.length → (ps.filterMap fun n => ((ps.zip us).lookup n).map (n, ·)) = ps.zip us ∧ ∀ n ∈ ps, ((ps.zip us).lookup n).isNone = false
  | [], us, _, _ => ⟨rfl, fun n h => by cases h⟩
  | p :: ps, [], _, h => by cases h
  | p :: ps, u :: us, nd, h => by
    obtain ⟨n1, n2⟩ := List.nodup_cons.mp nd
    obtain ⟨h1, h2⟩ := look_zip (ps := ps) (us := us) n2 (by simpa using h)
    have ne : ∀ n ∈ ps, (n == p) = false := fun n hn => beq_eq_false_iff_ne.mpr fun e => n1 (e ▸ hn)
    have lk : ∀ n ∈ ps, (((p, u) :: ps.zip us).lookup n) = (ps.zip us).lookup n := fun n hn => by rw [List.lookup_cons, ne n hn]
    refine ⟨?_, fun n hn => ?_⟩
    · have go : ∀ qs : List Str, (∀ n ∈ qs, n ∈ ps) → (qs.filterMap fun n => (((p, u) :: ps.zip us).lookup n).map (n, ·)) = qs.filterMap fun n => ((ps.zip us).lookup n).map (n, ·) := fun qs => by
        induction qs with
        | nil => intro _; rfl
        | cons q qs ih =>
          intro hq
          rw [List.filterMap_cons, List.filterMap_cons, lk q (hq q List.mem_cons_self), ih fun n hn => hq n (List.mem_cons_of_mem _ hn)]
      rw [List.zip_cons_cons, List.filterMap_cons, List.lookup_cons, beq_self_eq_true]
      show (p, u) :: _ = _
      rw [go ps fun _ h => h, h1]
    · rw [List.zip_cons_cons]
      rcases List.mem_cons.mp hn with e | hn
      · rw [e, List.lookup_cons, beq_self_eq_true]; rfl
      · rw [lk n hn]; exact h2 n hn
theorem bind_any {fd : FuncData} {args : List Arg} (hp : fd.params = ⟨[], args, none, [], [], none, []⟩) (hd : fd.defaults = .none) (nd : (args.map (·.arg)).Nodup) (us : List Value) (hl : us.length = (args.map (·.arg)).length) : bindArgs fd ⟨us, []⟩ = pure ((args.map (·.arg)).zip us) := by
  obtain ⟨h1, h2⟩ := look_zip (us := us) nd hl
  have e1 : ((args.map (·.arg)).filter fun n => (((args.map (·.arg)).zip us).lookup n).isNone) = [] := List.filter_eq_nil_iff.mpr fun n hn => by rw [h2 n hn]; exact Bool.false_ne_true
  have e2 : ¬ us.length > (args.map (·.arg)).length := by omega
  unfold bindArgs
  have e3 : seqItems? Value.none = pure none := rfl
  have e4 : (args.map (·.arg)).take (args.map (·.arg)).length = args.map (·.arg) := List.take_length
  have e5 : ((args.map (·.arg)).drop (args.map (·.arg)).length).zip ([] : List Value) = [] := by rw [List.zip_nil_right]
  simp only [hp, hd, List.map_nil, List.nil_append, List.append_nil, h1, List.forIn_nil, pure_bind, e3, decide_eq_false e2, Bool.false_and, Bool.false_eq_true, if_false, Option.getD_none, List.length_nil, Nat.sub_zero, List.drop_nil, e4, e1, List.isEmpty_nil, Bool.not_true, List.zip_nil_right, List.toList_toArray, Nat.zero_sub, Array.toList_empty]
theorem rai_of {P : Program} {w : World} {K : PySem.W.Frag} {h : Heap} {mg : Str → Option Value} {base : Heap} {x : XClsD} (X : K.In h) (hns : h.Ns mainGlobals mg) (ok : x.ok = true) (sn : x.seen K = x.val) (rb : raiB P K x = true) : RaiF P w K mg base x.name := by
  unfold XClsD.ok at ok
  simp only [Bool.and_eq_true, decide_eq_true_eq] at ok
  obtain ⟨⟨⟨⟨⟨⟨o1, o2⟩, o3⟩, o4⟩, o5⟩, o6⟩, o7⟩ := ok
  have S := initS_by o3
  unfold raiB at rb
  simp only [Bool.and_eq_true, decide_eq_true_eq, Bool.not_eq_true'] at rb
  obtain ⟨⟨⟨⟨⟨⟨⟨⟨⟨⟨⟨⟨⟨r1, r2⟩, r3⟩, r4⟩, r5⟩, r6⟩, r7⟩, r8⟩, r9⟩, r10⟩, r11⟩, r12⟩, r13⟩, r14⟩ := rb
  unfold XClsD.seen XClsD.val at sn
  split at r1
  rotate_left
  · cases r1
  rename_i oc od fd osl lk
  rw [lk] at sn
  simp only [Bool.and_eq_true, decide_eq_true_eq] at r1
  obtain ⟨⟨⟨q1, q2⟩, q3⟩, q4⟩ := r1
  obtain ⟨n1, n2, n3, n4, n5, n6, n7, n8, n9, n10, n11, n12, n13, n14, n15⟩ := fd
  simp only [Option.some.injEq, Prod.mk.injEq] at sn
  obtain ⟨h1, h2, h3, h4, h5, h6, h7, h8⟩ := sn
  obtain ⟨cc, ecl⟩ := closure_one h7
  dsimp only at q1 q2 q3 q4 ecl
  subst h1 h2 h3 h4 h5 h6 h8 ecl q1
  unfold fileB at q3
  split at q3
  rotate_left
  · cases q3
  rename_i cda
  split at q3
  rotate_left
  · cases q3
  rename_i c1 c2 vs c4 lk2
  split at q3
  rotate_left
  · cases q3
  rename_i file tf hvs
  change cell1B K _ cc = true at q4
  unfold cell1B at q4
  split at q4
  rotate_left
  · cases q4
  rename_i d1 d2 D d4 lk3
  obtain rfl := of_decide_eq_true q4
  obtain ⟨cd, hcd⟩ := Option.isSome_iff_exists.mp r2
  have IF : InitF P K (He.ga K (Str.ofString x.name)) (x.at_ K) x.qual x.params x.body x.scope _ := ⟨⟨oc, c1, d1, .none, n9, n10, n11, n14, od, c2, d2, n12, osl, c4, d4, cda, cc, vs, file, tf, cd, rfl, lk, q2, lk2, hvs, q3, lk3, hcd, rfl⟩, r3, r4, r5, r6, by rw [r7], oexB_ok r8⟩
  have hsup : mg "super" = none := mg_none_of X hns r13
  have hpar : ∃ args : List Arg, x.params = ⟨[], args, none, [], [], none, []⟩ ∧ args.map (·.arg) = [Str.ofString x.sn, Str.ofString x.n1, Str.ofString x.n2] := by
    have o4 := o4
    unfold plainA at o4
    split at o4
    · rename_i args e
      rw [Bool.and_eq_true, decide_eq_true_eq] at o4
      exact ⟨args, e, o4.1⟩
    · cases o4
  obtain ⟨args, ep, ea⟩ := hpar
  have hd0 : ∃ ar, (x.params.posonlyargs ++ x.params.args).head? = some ar ∧ ar.arg = Str.ofString x.sn := by
    rw [ep]
    match args, ea with
    | ar :: _, ea => exact ⟨ar, rfl, (List.cons.inj ea).1⟩
  unfold notD at o5 o6 o7
  simp only [Bool.and_eq_true, Bool.not_eq_true'] at o5 o6 o7
  refine ⟨⟨x.at_ K, ksFn "__init__" x.qual x.params x.body x.scope .none n9 n10 n11 n12 (.ref cda) n14 cc, [Str.ofString x.sn, Str.ofString x.n1, Str.ofString x.n2], x.n1, x.n2, o1, r9, r10, .all fun us hl => ?_, ?_⟩, oexB_ok r8, mg_of X hns r14⟩
  · have := bind_any (fd := ksFn "__init__" x.qual x.params x.body x.scope .none n9 n10 n11 n12 (.ref cda) n14 cc) ep rfl (by rw [ea]; exact S.nd) us (by rw [ea]; exact hl)
    rw [ea] at this
    exact this
  · have IF2 := IF
    revert IF2
    generalize hb : x.body = body at o2
    unfold initShape at o2
    split at o2
    · simp only [Bool.and_eq_true, decide_eq_true_eq] at o2
      obtain ⟨⟨⟨⟨⟨⟨⟨⟨⟨⟨rfl, rfl⟩, hl⟩, hm⟩, rfl⟩, rfl⟩, rfl⟩, rfl⟩, rfl⟩, rfl⟩, rfl⟩ := o2
      intro IF2
      exact init_fn2 (k := 0) S hm hl IF2 hd0 hsup o6.1 o6.2 o7.1 o7.2 o5.1 o5.2 r11 r12
    · cases o2
end PLS
end

section
set_option Elab.async false
set_option linter.all false
set_option maxRecDepth 100000
set_option maxHeartbeats 4500000
/-! the join: a module's table of defs, checked, gives the law's row -/
namespace PLS
open PySem PySem.Spec PyProof.Rows L2 PySem.W
/-- what is written of a def -/
structure RowD where
  name : String
  ps : List String
  N : List String
  io : List Nat
  d : PL.Def
structure ToldR where
  name : String
  a : String
  N : List String
  t : PL.TDef
structure TabD where
  rows : List RowD
  tolds : List ToldR
  lams : List String
  con : List (String × Int)
  fns : List String
  blt : List String
  cls : List String
  wf : Nat
  xcls : List XClsD
def TabD.prog (T : TabD) : PL.Prog := ⟨T.rows.map fun r => (r.name, r.d), T.tolds.map fun r => (r.name, r.t)⟩
def TabD.se (T : TabD) (f : String) (N : List Str) (sc : Scope) (IO : List Nat) : SE := ⟨N, sc, fun _ => true, IO, T.con, T.fns, T.blt.map Str.ofString, fun g => (T.prog.get g).map (·.io), T.cls, T.lams.contains f, T.tolds.map (·.name), T.xcls.map (·.name)⟩
def names (xs : List String) : List Str := xs.map Str.ofString
def rowB (T : TabD) (r : RowD) (dd : He.DefD) : Bool := decide (dd.at_ = (Str.ofString r.name, none)) && decide (dd.name = Str.ofString r.name) && decide (dd.qual = Str.ofString r.name) && dd.dfl.isEmpty && dd.kwd.isEmpty && plainA dd.params (names r.ps) && C8.scC (names r.N) (names r.ps) dd.scope &&
  chkSs (T.se r.name (names r.N) dd.scope r.io) r.d.body dd.body && decide (r.N.length = r.d.ns) && decide (r.ps.length = r.d.io.length) && (List.range r.d.io.length).all fun k => !decide (r.d.io[k]? = some true) || r.io.contains k
def toldRB (r : ToldR) (dd : He.DefD) : Bool := decide (dd.at_ = (Str.ofString r.name, none)) && decide (dd.name = Str.ofString r.name) && decide (dd.qual = Str.ofString r.name) && dd.dfl.isEmpty && dd.kwd.isEmpty && plainA dd.params [Str.ofString r.a] && C8.scC (names r.N) [Str.ofString r.a] dd.scope &&
  decide (dd.scope.names.lookup (Str.ofString r.a) = some .local) && !(Str.ofString r.a == ("__debug__" : Str)) && !(Str.ofString r.a == ("__classdict__" : Str)) && toldB r.t (names r.N) dd.scope (Str.ofString r.a) dd.body
/-- a class whose fields are read -/
def catB (K : PySem.W.Frag) (p : String × PL.HE) : Bool := match p.2 with
  | .cat _ => L2.xfB K (He.ga K (Str.ofString p.1)) && decide (PySem.W.findIn K (.ref (He.ga K (Str.ofString p.1))) (fld2 p.1).1 = some none) && decide (PySem.W.findIn K (.ref (He.ga K (Str.ofString p.1))) (fld2 p.1).2 = some none) && decide (PySem.W.nsIn K mainGlobals "str" = some none)
  | _ => true
theorem catB_ok {K : PySem.W.Frag} {h : Heap} {mg : Str → Option Value} {p : String × PL.HE} (X : K.In h) (hns : h.Ns mainGlobals mg) (c : catB K p = true) : catF K mg p := by
  unfold catB at c
  unfold catF
  split
  · rename_i k e
    rw [e] at c
    simp only [Bool.and_eq_true, decide_eq_true_eq] at c
    exact ⟨L2.xfB_ok c.1.1.1, c.1.1.2, c.1.2, mg_none_of X hns c.2⟩
  · trivial
/-- what the fragment must say -/
def TabD.ex (T : TabD) (P : Program) : PySem.W.Frag → Bool := fun K => decide ((T.lams.map fun f => He.tabOf K (He.codeOf K (Str.ofString f, none))).Nodup) && T.xcls.all (raiB P K) && T.tolds.all fun r => r.t.hs.all (catB K)
def TabD.xok (T : TabD) : Bool := T.xcls.all XClsD.ok
/-- the facts of the defs that try -/
def ToldR.fa (r : ToldR) : List He.Fa := .glo (Str.ofString r.name) :: (r.t.hs.map (fun p => .glo (Str.ofString p.1)) ++ r.t.cs.flatMap fun c => r.t.hs.map fun p => .exm (Str.ofString c) (Str.ofString p.1) (PL.subCls c p.1))
def TabD.fa (T : TabD) : List He.Fa := T.rows.map (fun r => .glo (Str.ofString r.name)) ++ (T.con.map (fun p => .int (Str.ofString p.1) p.2) ++ (T.fns.map (fun x => .glo (Str.ofString x)) ++ (T.blt.map (fun x => .free (Str.ofString x)) ++ (T.cls.map (fun x => .exc (Str.ofString x)) ++ (T.cls.map (fun x => .glo (Str.ofString x)) ++ T.tolds.flatMap (·.fa))))))
theorem lookup_in {β : Type} : ∀ {l : List (String × β)} {x : String} {b : β}, l.lookup x = some b → (x, b) ∈ l
  | [], _, _, h => by cases h
  | (y, c) :: l, x, b, h => by
    rw [List.lookup_cons] at h
    split at h
    · rename_i e
      cases h
      rw [eq_of_beq e]
      exact List.mem_cons_self
    · exact List.mem_cons_of_mem _ (lookup_in h)
theorem bind_args {x qual : Str} {args : List Arg} {body : List Stmt} {scope : Scope} (nd : (args.map (·.arg)).Nodup) (kV doc pm : Value) (an : Option Addr) (cdv ct : Value) (us : List Value) (hl : us.length = (args.map (·.arg)).length) :
    bindArgs (PySem.W.fnOf x qual ⟨[], args, none, [], [], none, []⟩ body scope .none kV doc pm an cdv ct) ⟨us, []⟩ = pure ((args.map (·.arg)).zip us) := bind_any rfl rfl nd us hl
theorem bind_plain {x qual : Str} {params : Arguments} {body : List Stmt} {scope : Scope} {ps : List Str} (h : plainA params ps = true) (kV doc pm : Value) (an : Option Addr) (cdv ct : Value) (us : List Value) (hl : us.length = ps.length) :
    bindArgs (PySem.W.fnOf x qual params body scope .none kV doc pm an cdv ct) ⟨us, []⟩ = pure (ps.zip us) := by
  unfold plainA at h
  split at h
  · rename_i args
    rw [Bool.and_eq_true, decide_eq_true_eq, decide_eq_true_eq] at h
    obtain ⟨rfl, nd⟩ := h
    exact bind_args nd kV doc pm an cdv ct us hl
  · cases h
theorem plain_args {params : Arguments} {ps : List Str} (h : plainA params ps = true) : params.args.map (·.arg) = ps := by
  unfold plainA at h
  split at h
  · rw [Bool.and_eq_true, decide_eq_true_eq] at h
    exact h.1
  · cases h
theorem map_eq_at {α β : Type} {f g : α → β} : ∀ {l : List α}, l.map f = l.map g → ∀ x ∈ l, f x = g x
  | [], _, x, h => by cases h
  | a :: l, e, x, h => by
    rw [List.map_cons, List.map_cons] at e
    injection e with e1 e2
    rcases List.mem_cons.mp h with rfl | h
    · exact e1
    · exact map_eq_at e2 x h
section
variable {T : TabD} {fn fnT : List He.DefD} {K : PySem.W.Frag} {h : Heap} {mg : Str → Option Value}
/-- what the head must tell, what the check must say -/
structure Told (T : TabD) (fn fnT : List He.DefD) : Prop where
  rows : (T.rows.zip fn).all (fun p => rowB T p.1 p.2) = true
  len : T.rows.length = fn.length
  rowsT : (T.tolds.zip fnT).all (fun p => toldRB p.1 p.2) = true
  lenT : T.tolds.length = fnT.length
theorem zip_of {α β : Type} {xs : List α} {ys : List β} (e : xs.length = ys.length) {p : α × β → Bool} (h : (xs.zip ys).all p = true) {x : α} (hx : x ∈ xs) : ∃ y ∈ ys, p (x, y) = true := by
  obtain ⟨i, hi, e1⟩ := List.mem_iff_getElem.mp hx
  have hj : i < ys.length := by rw [← e]; exact hi
  have hm : (x, ys[i]) ∈ xs.zip ys := by
    refine List.mem_iff_getElem.mpr ⟨i, by rw [List.length_zip]; omega, ?_⟩
    rw [List.getElem_zip, e1]
  exact ⟨ys[i], List.getElem_mem hj, List.all_eq_true.mp h _ hm⟩
theorem Told.row (t : Told T fn fnT) {r : RowD} (hr : r ∈ T.rows) : ∃ dd ∈ fn, rowB T r dd = true := zip_of t.len t.rows hr
def TabD.mod (T : TabD) (G : GS) (mg : Str → Option Value) (base : Heap) : Mod := ⟨G, mg, base, T.prog, T.wf, T.con, T.fns, T.blt.map Str.ofString, T.cls, T.lams, T.tolds.map (·.name), T.xcls.map (·.name)⟩
theorem Told.defi (t : Told T fn fnT) {G : GS} {base : Heap} (hK : G.K = K) (X : K.In h) (hns : h.Ns mainGlobals mg) (c : He.SaysD T.fa (fn ++ fnT) K) {f : String} {d : PL.Def} (hf : T.prog.get f = some d) : ∃ fd ps N IO, DefI (T.mod G mg base) f d fd ps N IO ∧ ∃ r ∈ T.rows, r.name = f ∧ ps = names r.ps := by
  subst hK
  obtain ⟨r, hr, e⟩ := List.mem_map.mp (lookup_in (show (T.rows.map fun r => (r.name, r.d)).lookup f = some d from hf))
  cases e
  obtain ⟨dd, hd, hb⟩ := t.row hr
  unfold rowB at hb
  simp only [Bool.and_eq_true, decide_eq_true_eq] at hb
  obtain ⟨⟨⟨⟨⟨⟨⟨⟨⟨⟨e1, e2⟩, eq⟩, e3⟩, e4⟩, e5⟩, e6⟩, e7⟩, e8⟩, e9⟩, e10⟩ := hb
  obtain ⟨fd, F⟩ := c.defs (List.mem_append_left _ hd)
  obtain ⟨at_, nm, qual, params, body, scope, dfl, kwd⟩ := dd
  dsimp only at e1 e2 eq e3 e4 e5 e6 e7
  subst e1 e2 eq
  obtain rfl := isEmpty_nil e3
  obtain rfl := isEmpty_nil e4
  have F : FunD G.K (Str.ofString r.name) (Str.ofString r.name) params body scope [] [] (He.ga G.K (Str.ofString r.name)) fd := F
  have hg := He.glo_ok X hns (c.facts (f := .glo (Str.ofString r.name)) (List.mem_append_left _ (List.mem_map.mpr ⟨r, hr, rfl⟩)))
  refine ⟨fd, names r.ps, names r.N, r.io, ⟨⟨params, body, scope, [], F, e6, e7, e5⟩, ?_, ?_, fun k hk => ?_, F.bindsN (bind_plain e5), hg, F.kp⟩, r, hr, rfl, rfl⟩
  · unfold names; rw [List.length_map]; exact e8
  · unfold names; rw [List.length_map]; exact e9
  · have hlt : k < r.d.io.length := (List.getElem?_eq_some_iff.mp hk).1
    have q := List.all_eq_true.mp e10 k (List.mem_range.mpr hlt)
    rw [hk] at q
    simpa using q
theorem fa_r {α : Type} {l₁ l₂ : List α} {a : α} (h : a ∈ l₂) : a ∈ l₁ ++ l₂ := List.mem_append_right _ h
theorem fa_l {α : Type} {l₁ l₂ : List α} {a : α} (h : a ∈ l₁) : a ∈ l₁ ++ l₂ := List.mem_append_left _ h
theorem Told.toldF (t : Told T fn fnT) (hcat : (T.tolds.all fun r => r.t.hs.all (catB K)) = true) (X : K.In h) (hns : h.Ns mainGlobals mg) (c : He.SaysD T.fa (fn ++ fnT) K) {f : String} {td : PL.TDef} (hf : T.prog.tolds.lookup f = some td) : ToldF K mg f td := by
  obtain ⟨r, hr, e⟩ := List.mem_map.mp (lookup_in (show (T.tolds.map fun r => (r.name, r.t)).lookup f = some td from hf))
  cases e
  obtain ⟨dd, hd, hb⟩ := zip_of t.lenT t.rowsT hr
  have inf : ∀ {x : He.Fa}, x ∈ r.fa → x ∈ T.fa := fun z => fa_r (fa_r (fa_r (fa_r (fa_r (fa_r (List.mem_flatMap.mpr ⟨r, hr, z⟩))))))
  unfold toldRB at hb
  simp only [Bool.and_eq_true, decide_eq_true_eq, Bool.not_eq_true'] at hb
  obtain ⟨⟨⟨⟨⟨⟨⟨⟨⟨⟨e1, e2⟩, eq⟩, e3⟩, e4⟩, e5⟩, e6⟩, e7⟩, e8⟩, e9⟩, e10⟩ := hb
  obtain ⟨fd, F⟩ := c.defs (List.mem_append_right _ hd)
  obtain ⟨at_, nm, qual, params, body, scope, dfl, kwd⟩ := dd
  dsimp only at e1 e2 eq e3 e4 e5 e6 e7 e10
  subst e1 e2 eq
  obtain rfl := isEmpty_nil e3
  obtain rfl := isEmpty_nil e4
  have F : FunD K (Str.ofString r.name) (Str.ofString r.name) params body scope [] [] (He.ga K (Str.ofString r.name)) fd := F
  refine ⟨⟨fd, params, body, scope, [], Str.ofString r.a, names r.N, F, F.bindsN (bind_plain e5), C8.fnScope_by e6, e7, e8, e9, e10⟩, He.glo_ok X hns (c.facts (inf List.mem_cons_self)), fun p hp => He.glo_ok X hns (c.facts (inf (List.mem_cons_of_mem _ (fa_l (List.mem_map.mpr ⟨p, hp, rfl⟩))))), fun p hp => catB_ok X hns (List.all_eq_true.mp (List.all_eq_true.mp hcat r hr) p hp), fun cl hc p hp => ?_⟩
  exact of_decide_eq_true (c.facts (f := .exm (Str.ofString cl) (Str.ofString p.1) (PL.subCls cl p.1)) (inf (List.mem_cons_of_mem _ (fa_r (List.mem_flatMap.mpr ⟨cl, hc, List.mem_map.mpr ⟨p, hp, rfl⟩⟩)))))
theorem Told.modOk (t : Told T fn fnT) (xok : T.xok = true) {G : GS} {base : Heap} (hK : G.K = K) (X : K.In h) (hns : h.Ns mainGlobals mg) (c : He.SaysD T.fa (fn ++ fnT) K) (hcat : (T.tolds.all fun r => r.t.hs.all (catB K)) = true) (hrb : T.xcls.all (raiB G.P K) = true) (hsn : T.xcls.map (·.seen K) = T.xcls.map (·.val)) (hl : ∀ f ∈ T.lams, LamX.TabB base mg (He.codeOf K (Str.ofString f, none)) (He.tabOf K (He.codeOf K (Str.ofString f, none))) ∧ (He.tabOf K (He.codeOf K (Str.ofString f, none)), lamQ f) ∈ G.T ∧ ∀ p ∈ G.T, p.1 = He.tabOf K (He.codeOf K (Str.ofString f, none)) → p.2 = lamQ f) : ModOk (T.mod G mg base) := by
  subst hK
  refine ⟨fun x i hx => ?_, fun x hx => ?_, fun x hx => ?_, fun x hx => ?_, fun f d hf => let ⟨fd, ps, N, IO, D, _⟩ := t.defi rfl X hns c hf; ⟨fd, ps, N, IO, D⟩, fun f td hf => t.toldF hcat X hns c hf, fun x hx => ?_, hl⟩
  · exact He.int_ok X hns (c.facts (fa_r (fa_l (List.mem_map.mpr ⟨(x, i), lookup_in hx, rfl⟩))))
  · exact He.glo_ok X hns (c.facts (fa_r (fa_r (fa_l (List.mem_map.mpr ⟨x, hx, rfl⟩)))))
  · obtain ⟨y, hy, rfl⟩ := List.mem_map.mp hx
    exact He.free_ok X hns (c.facts (fa_r (fa_r (fa_r (fa_l (List.mem_map.mpr ⟨y, hy, rfl⟩))))))
  · obtain ⟨h1, h2, h3, h4⟩ := He.exc_ok (c.facts (fa_r (fa_r (fa_r (fa_r (fa_l (List.mem_map.mpr ⟨x, hx, rfl⟩)))))))
    exact ⟨⟨"ValueError", "ValueError.__new__", "ValueError.__init__", He.veBase, F.excBase_ValueError, h1⟩, He.glo_ok X hns (c.facts (fa_r (fa_r (fa_r (fa_r (fa_r (fa_l (List.mem_map.mpr ⟨x, hx, rfl⟩)))))))), h2, h3, h4⟩
  · obtain ⟨y, hy, rfl⟩ := List.mem_map.mp hx
    exact rai_of X hns (List.all_eq_true.mp xok y hy) (map_eq_at hsn y hy) (List.all_eq_true.mp hrb y hy)
end
/-- the script -/
theorem RepL_ints {P : Program} {w : World} {K : PySem.W.Frag} {H : Hp} {Z : Addr → Prop} : ∀ ns : List Int, RepL P w K H Z (ns.map .int) (ns.map V.int)
  | [] => RepL.nil
  | n :: ns => RepL.cons (by simp only [Rep]) (RepL_ints ns)
theorem sqL_K {K : PySem.W.Frag} {H : Hp} {a : Addr} {vs : List V} (h : SqL K H a vs) : (∃ o, H a = some o) ∨ ∀ Hx : Hp, SqL K Hx a vs := by
  rcases h with (h | ⟨o, h⟩) | h
  · exact .inl ⟨_, h⟩
  · exact .inl ⟨_, h⟩
  · exact .inr fun Hx => .inr h
/-- the law's promise from the interpreter's answer -/
theorem law_sp {G : GS} {r : List PL.SV → PL.Res (PL.RV × List PL.OV)} {H : Hp} {a : Addr} {ns : List Int} (hl : ns.length ≤ 4096) (hS : SqL G.K H a (ns.map V.int)) (hT : LamX.Tabs G.T H) (h : r [.d (.lst (ns.map .int))] = .ok (.v (.bl true), [])) :
    spF G r [.ref a] H (fun v _ => v = .bl true) fun _ _ _ => False := by
  refine ⟨fun b => b = a ∧ ∃ o, H b = some o, [.d (.lst (ns.map .int))], ?_, ⟨rfl, fun i s e => ?_, fun i j x s b h1 => ?_, hT, fun b z => z.2⟩, ?_⟩
  · intro i n e
    match i, e with
    | 0, e => cases e; exact .inl ⟨_, rfl⟩
    | i + 1, e => simp at e
  · match i, e with
    | 0, e =>
      cases e
      refine ⟨.ref a, rfl, ?_⟩
      show Rep G.P G.w G.K H _ (.lst _) (.ref a)
      simp only [Rep]
      exact ⟨a, ns.map V.int, rfl, (sqL_K hS).imp (fun z => ⟨rfl, z⟩) id, hS, by rw [List.length_map, sizeLine_eq]; omega, RepL_ints ns⟩
    | i + 1, e => simp at e
  · match i, h1 with
    | 0, h1 => cases h1
    | i + 1, h1 => simp at h1
  · rw [h]
    intro v H' Z' ρ' _ _ _ rr
    have rr : G.R H' Z' (.bl true) v := rr
    simpa only [GS.R, Rep] using rr
theorem lookup_uni {K : PySem.W.Frag} {f : Addr} {x q q' : Str} {pa pa' : Arguments} {bd bd' : List Stmt} {sc sc' : Scope} {kws kws' : List (Str × V)} {fd fd' : FuncData} (F : FunD K x q pa bd sc [] kws f fd) (F' : FunD K x q' pa' bd' sc' [] kws' f fd') : fd = fd' ∧ pa = pa' := by
  obtain ⟨oc, od, dV, kV, doc, pm, an, cdv, ct, osl, e1, lk, _⟩ := F.ex
  obtain ⟨oc', od', dV', kV', doc', pm', an', cdv', ct', osl', e1', lk', _⟩ := F'.ex
  rw [lk] at lk'
  have e2 := Option.some.inj lk'
  injection e2 with e3 e4 e5 e6
  injection e5 with e5
  refine ⟨e5, ?_⟩
  rw [e1, e1'] at e5
  unfold PySem.W.fnOf at e5
  injection e5
/-- no lambda is kept in a local: nothing is said of how one stands -/
def gs0 (P : Program) (w : World) (K : PySem.W.Frag) (T : List (Addr × Str)) : GS := ⟨P, w, K, T, fun _ _ => .tup [], [], fun _ _ _ z => (by cases z), fun _ _ _ z => (by cases z), fun _ _ d l z => by unfold DicO at z; cases z⟩
/-- tables: of the defs that make lambdas -/
def tabsOf (K : PySem.W.Frag) (ls : List String) : List (Addr × Str) := ls.map fun f => (He.tabOf K (He.codeOf K (Str.ofString f, none)), lamQ f)
def TabD.tf (T : TabD) : List He.Defn := T.lams.map fun f => (Str.ofString f, none)
/-! the hook -/
abbrev AlY : Type := He.AlX × List IW
def kY (n : Nat) (g : Addr → Option Obj) : PySem.W.Frag := He.frT g (He.asD g n ++ [cStatics])
def obsY (n : Nat) (fa : List He.Fa) (fn : List He.DefD) (tf : List He.Defn) (ex : PySem.W.Frag → Bool) (xs : List XClsD) (g : Addr → Option Obj) : AlY := ((He.obsT fa fn [] (kY n g), ex (kY n g) && He.tabsB g tf (kY n g)), xs.map (·.seen (kY n g)))
def valY (fn : List He.DefD) (xs : List XClsD) (w : World) : AlY := ((He.valT fn [] w, true), xs.map (·.val))
structure SaysY (fa : List He.Fa) (fn : List He.DefD) (tf : List He.Defn) (ex : PySem.W.Frag → Bool) (xs : List XClsD) (w : World) (h : Heap) (K : PySem.W.Frag) : Prop where
  x : He.SaysX fa fn [] tf ex w h K
  sn : xs.map (·.seen K) = xs.map (·.val)
theorem saysX_at {fa : List He.Fa} {fn : List He.DefD} {tf : List He.Defn} {ex : PySem.W.Frag → Bool} {w : World} {h : Heap} {as : List Addr} (e1 : He.obsT fa fn [] (He.frT h.get? as) = He.valT fn [] w) (e2 : (ex (He.frT h.get? as) && He.tabsB h.get? tf (He.frT h.get? as)) = true) : He.SaysX fa fn [] tf ex w h (He.frT h.get? as) := by
  obtain ⟨h1, h2⟩ := Bool.and_eq_true_iff.mp e2
  have key : ∀ p ∈ tf, PySem.W.codeHdIn (He.frT h.get? as) (He.cT (He.frT h.get? as) p).1 (He.cT (He.frT h.get? as) p).2 = true ∧ ∃ o, h.get? (He.cT (He.frT h.get? as) p).2 = some o ∧ He.emptyTab o = true := fun p hp => by
    obtain ⟨h3, h4⟩ := Bool.and_eq_true_iff.mp (List.all_eq_true.mp h2 p hp)
    refine ⟨h3, ?_⟩
    cases q : h.get? (He.cT (He.frT h.get? as) p).2 with
    | none =>
      rw [q] at h4
      cases h4
    | some o =>
      rw [q] at h4
      exact ⟨o, rfl, h4⟩
  exact ⟨e1, h1, fun p hp => (key p hp).1, fun p hp => by
    obtain ⟨_, o, q, z⟩ := key p hp
    exact He.frT_none q z, fun p hp => by
    obtain ⟨_, o, q, z⟩ := key p hp
    rw [q, He.emptyTab_eq z]⟩
theorem saysY_of {n : Nat} {fa : List He.Fa} {fn : List He.DefD} {tf : List He.Defn} {ex : PySem.W.Frag → Bool} {xs : List XClsD} {w : World} {h : Heap} (e : obsY n fa fn tf ex xs h.get? = valY fn xs w) : SaysY fa fn tf ex xs w h (kY n h.get?) :=
  ⟨saysX_at (congrArg (fun z : AlY => z.1.1) e) (congrArg (fun z : AlY => z.1.2) e), congrArg (fun z : AlY => z.2) e⟩
def hookY (n : Nat) (fa : List He.Fa) (fn : List He.DefD) (tf : List He.Defn) (ex : PySem.W.Frag → Bool) (xs : List XClsD) : PySem.W.Hook where
  α := AlY
  obs := fun s => obsY n fa fn tf ex xs s.heap.get?
  val := fun w => valY fn xs w
  says := fun w h => ∃ K : PySem.W.Frag, K.In h ∧ SaysY fa fn tf ex xs w h K
  of := fun _ _ e => ⟨_, He.frT_in, saysY_of e⟩
  keeps := fun _ _ _ ⟨K, hK, c⟩ k => ⟨K, PySem.W.Frag.In.keeps hK k, ⟨⟨c.x.t, c.x.more, c.x.hd, c.x.out, fun p hp => k _ _ (c.x.empty p hp)⟩, c.sn⟩⟩
theorem obsY_eq {n : Nat} {fa : List He.Fa} {fn : List He.DefD} {tf : List He.Defn} {ex : PySem.W.Frag → Bool} {xs : List XClsD} {g : Addr → Option Obj} {s : Shared} (h : ∀ a, g a = s.heap.get? a) : obsY n fa fn tf ex xs g = (hookY n fa fn tf ex xs).obs s := by
  have e : g = s.heap.get? := funext h
  rw [e] <;> rfl
theorem nodup_one {α β : Type} {f : α → β} : ∀ {l : List α}, (l.map f).Nodup → ∀ {x y : α}, x ∈ l → y ∈ l → f x = f y → x = y
  | [], _, x, y, h, _, _ => by cases h
  | a :: l, nd, x, y, hx, hy, e => by
    rw [List.map_cons] at nd
    obtain ⟨n1, n2⟩ := List.nodup_cons.mp nd
    rcases List.mem_cons.mp hx with e1 | hx
    · rcases List.mem_cons.mp hy with e2 | hy
      · rw [e1, e2]
      · exact absurd (List.mem_map.mpr ⟨y, hy, by rw [← e, e1]⟩) n1
    · rcases List.mem_cons.mp hy with e2 | hy
      · exact absurd (List.mem_map.mpr ⟨x, hx, by rw [e, e2]⟩) n1
      · exact nodup_one n2 hx hy e
theorem join {T : TabD} {fn fnT : List He.DefD} {l : PySem.W.OpenLaw} {n : Nat} {x : String} (t : Told T fn fnT) (xok : T.xok = true) (hps : ∀ r ∈ T.rows, r.name = "law" → r.ps = [x]) (hlaw : (T.prog.get "law").isSome = true)
    (ans : ∀ ns : List Int, ns.length ≤ 63 → PL.callF T.prog T.wf n "law" [.d (.lst (ns.map .int))] = .ok (.v (.bl true), [])) (w : World) (mg : Str → Option Value) (fa : Addr) (h : Heap) (Y : (hookY 4 T.fa (fn ++ fnT) T.tf (T.ex l.prog) T.xcls).says w h) (hns : h.Ns mainGlobals mg) (hmg : mg "law" = some (.ref fa)) :
    ∃ K : PySem.W.Frag, K.In h ∧ LamX.LawAtS l w K (L2.CX l.prog w) (3 * n) 63 (Str.ofString x) mg fa h := by
  obtain ⟨K, X, SY⟩ := Y
  have S := SY.x
  have c := S.t.d
  have hmore := S.more
  unfold TabD.ex at hmore
  simp only [Bool.and_eq_true, decide_eq_true_eq] at hmore
  obtain ⟨⟨hnd', hrb⟩, hcat⟩ := hmore
  have hnd : (T.lams.map fun f => He.tabOf K (He.codeOf K (Str.ofString f, none))).Nodup := hnd'
  cases hd : T.prog.get "law" with
  | none => rw [hd] at hlaw; cases hlaw
  | some d =>
    let G := gs0 l.prog w K (tabsOf K T.lams)
    obtain ⟨fd, ps, N, IO, D, r, hr, hn, eps⟩ := t.defi (G := G) (base := h) rfl X hns c hd
    have eps : ps = [Str.ofString x] := by rw [eps, hps r hr hn]; rfl
    have hfa : fa = He.ga K (Str.ofString "law") := by
      have g : mg (Str.ofString "law") = some (.ref (He.ga K (Str.ofString "law"))) := D.glob
      have e := hmg.symm.trans g
      cases e
      rfl
    obtain ⟨params, body, scope, kws, F, sc, ck, pp⟩ := D.ex
    have inT : ∀ p ∈ T.tf.map (He.cT K), ∃ q ∈ T.tf, He.cT K q = p := fun p hp => List.mem_map.mp hp
    refine ⟨K, X, fd, T.tf.map (He.cT K), fun vs H Q E => ∀ IO, spF { G with IO := IO } (PL.callF T.prog T.wf n "law") vs H Q E, fun p hp => ?_, fun p hp => ?_, fun p hp => ?_, fun s u => ?_, fun H a ns hl _ hT hS IO => ?_, fun base hb hnb hTB => ?_⟩
    · obtain ⟨q, hq, rfl⟩ := inT p hp
      exact S.empty q hq
    · obtain ⟨q, hq, rfl⟩ := inT p hp
      exact S.out q hq
    · obtain ⟨q, hq, rfl⟩ := inT p hp
      exact codeHd_of_K X (S.hd q hq)
    · have b := FunD.bindsA F (bind_plain pp) s [u] (by rw [eps]; rfl)
      rw [eps] at b
      exact b
    · refine law_sp (by omega) hS (fun p hp => ?_) (ans ns hl)
      obtain ⟨q, hq, rfl⟩ := List.mem_map.mp (show p ∈ tabsOf K T.lams from hp)
      exact LamX.TabS.nil (hT _ (List.mem_map.mpr ⟨(Str.ofString q, none), List.mem_map.mpr ⟨q, hq, rfl⟩, rfl⟩))
    · have hlam : ∀ f ∈ T.lams, LamX.TabB base mg (He.codeOf K (Str.ofString f, none)) (He.tabOf K (He.codeOf K (Str.ofString f, none))) ∧ (He.tabOf K (He.codeOf K (Str.ofString f, none)), lamQ f) ∈ G.T ∧ ∀ p ∈ G.T, p.1 = He.tabOf K (He.codeOf K (Str.ofString f, none)) → p.2 = lamQ f := fun f hf => by
        refine ⟨hTB _ (List.mem_map.mpr ⟨(Str.ofString f, none), List.mem_map.mpr ⟨f, hf, rfl⟩, rfl⟩), List.mem_map.mpr ⟨f, hf, rfl⟩, fun p hp e => ?_⟩
        obtain ⟨g, hg, rfl⟩ := List.mem_map.mp (show p ∈ tabsOf K T.lams from hp)
        rw [nodup_one hnd hg hf e]
      obtain ⟨fd', ps', N', IO', D', FO⟩ := holds (T.mod G mg base) (t.modOk xok rfl hb hnb c hcat hrb SY.sn hlam) n "law" d hd
      obtain ⟨params', body', scope', kws', F', sc', ck', pp'⟩ := D'.ex
      obtain ⟨rfl, rfl⟩ := lookup_uni F F'
      have e' : ps' = [Str.ofString x] := by rw [← plain_args pp', plain_args pp, eps]
      subst e'
      rw [hfa]
      exact ⟨fun vs H Q E z => FO.len vs H Q E (z IO'), fun A outer s H args us vs Q E hr he hbd hv hs => FO.run A outer s H args us vs Q E hr he hbd hv (hs IO')⟩
end PLS
end

section
set_option Elab.async false
set_option linter.all false
set_option maxRecDepth 100000
set_option maxHeartbeats 4500000
/-! the hook over addresses that are told -/
namespace PLS
open PySem PySem.Spec PyProof.Rows L2 PySem.W
def obsZ (as : List Addr) (fa : List He.Fa) (fn : List He.DefD) (tf : List He.Defn) (ex : PySem.W.Frag → Bool) (xs : List XClsD) (g : Addr → Option Obj) : AlY := ((He.obsT fa fn [] (He.frT g as), ex (He.frT g as) && He.tabsB g tf (He.frT g as)), xs.map (·.seen (He.frT g as)))
theorem saysZ_of {as : List Addr} {fa : List He.Fa} {fn : List He.DefD} {tf : List He.Defn} {ex : PySem.W.Frag → Bool} {xs : List XClsD} {w : World} {h : Heap} (e : obsZ as fa fn tf ex xs h.get? = valY fn xs w) : SaysY fa fn tf ex xs w h (He.frT h.get? as) :=
  ⟨saysX_at (congrArg (fun z : AlY => z.1.1) e) (congrArg (fun z : AlY => z.1.2) e), congrArg (fun z : AlY => z.2) e⟩
def hookZ (as : List Addr) (fa : List He.Fa) (fn : List He.DefD) (tf : List He.Defn) (ex : PySem.W.Frag → Bool) (xs : List XClsD) : PySem.W.Hook where
  α := AlY
  obs := fun s => obsZ as fa fn tf ex xs s.heap.get?
  val := fun w => valY fn xs w
  says := fun w h => ∃ K : PySem.W.Frag, K.In h ∧ SaysY fa fn tf ex xs w h K
  of := fun _ _ e => ⟨_, He.frT_in, saysZ_of e⟩
  keeps := fun _ _ _ ⟨K, hK, c⟩ k => ⟨K, PySem.W.Frag.In.keeps hK k, ⟨⟨c.x.t, c.x.more, c.x.hd, c.x.out, fun p hp => k _ _ (c.x.empty p hp)⟩, c.sn⟩⟩
end PLS
end

section
set_option linter.all false
set_option maxRecDepth 100000
/-! the draws of every law, by their numbers -/
namespace PN
open PL
def dTaken : Def := ⟨[true, false], 4, (.cons (.ite (.cmp .gt (.sub (.var 0) (.con (.int 3))) (.con (.int 0))) (.cons (.asg 3 (.bin .mod (.b1 .int (.sub (.var 0) (.con (.int 3)))) (.var 1))) (.cons (.setI (.var 0) (.con (.int 3)) (.bin .fdiv (.sub (.var 0) (.con (.int 3))) (.var 1))) (.cons (.ret (.var 3)) .nil))) .nil) (.cons (.setI (.var 0) (.con (.int 1)) (.bin .add (.sub (.var 0) (.con (.int 1))) (.con (.int 1)))) (.cons (.ite (.cmp .gt (.sub (.var 0) (.con (.int 1))) (.b1 .len (.sub (.var 0) (.con (.int 0))))) (.cons (.setI (.var 0) (.con (.int 2)) (.bin .mod (.b1 .int (.bin .add (.bin .mul (.sub (.var 0) (.con (.int 2))) (.con (.int 48271))) (.con (.int 11)))) (.con (.int 2147483647)))) (.cons (.ret (.bin .mod (.b1 .int (.bin .fdiv (.sub (.var 0) (.con (.int 2))) (.con (.int 7)))) (.var 1))) .nil)) .nil) (.cons (.asg 2 (.sub (.sub (.var 0) (.con (.int 0))) (.bin .sub (.sub (.var 0) (.con (.int 1))) (.con (.int 1))))) (.cons (.setI (.var 0) (.con (.int 2)) (.bin .mod (.b1 .int (.bin .add (.bin .add (.bin .mul (.sub (.var 0) (.con (.int 2))) (.con (.int 48271))) (.var 2)) (.con (.int 11)))) (.con (.int 2147483647)))) (.cons (.ite (.cmp .ge (.var 2) (.bin .pow (.con (.int 10)) (.con (.int 18)))) (.cons (.setI (.var 0) (.con (.int 3)) (.bin .fdiv (.var 2) (.var 1))) .nil) .nil) (.cons (.ret (.bin .mod (.b1 .int (.var 2)) (.var 1))) .nil)))))))⟩
def dPick : Def := ⟨[true, false], 2, (.cons (.ret (.sub (.var 1) (.call "_law_taken" (.cons (.var 0) (.cons (.b1 .len (.var 1)) .nil))))) .nil)⟩
/-- the first statements, the others -/
def takeS : Nat → Ss → Ss
  | 0, _ => .nil
  | n + 1, .cons s r => .cons s (takeS n r)
  | _, .nil => .nil
def dropS : Nat → Ss → Ss
  | 0, r => r
  | n + 1, .cons _ r => dropS n r
  | _, .nil => .nil
theorem res_bind_assoc {α β γ : Type} (r : Res α) (f : α → Res β) (g : β → Res γ) : (r.bind f).bind g = r.bind fun a => (f a).bind g := by cases r <;> rfl
theorem split_at (c : Ctx) : ∀ (n : Nat) (b : Ss) (ρ : Env), execSs c b ρ = (execSs c (takeS n b) ρ).bind fun (f, ρ1) => match f with
    | .nx => execSs c (dropS n b) ρ1
    | .rt x => .ok (.rt x, ρ1)
  | 0, b, ρ => by simp only [takeS, execSs, evK, Res.bind, dropS]
  | n + 1, .nil, ρ => by simp only [takeS, execSs, evK, Res.bind, dropS]
  | n + 1, .cons s r, ρ => by
    simp only [takeS, execSs, dropS]
    rw [res_bind_assoc]
    congr 1
    funext p
    obtain ⟨f, ρ1⟩ := p
    cases f with
    | nx => exact split_at c n r ρ1
    | rt x => rfl
theorem skip {c : Ctx} {n : Nat} {b : Ss} {ρ ρ1 : Env} (h : execSs c (takeS n b) ρ = .ok (.nx, ρ1)) : execSs c b ρ = execSs c (dropS n b) ρ1 := by
  rw [split_at c n b ρ, h]; rfl
/-- one draw: the number, the cell's place, the seed, what is left -/
structure St where
  k : Nat
  s : Int
  h : Int
def nextS (s c : Int) : Int := (s * 48271 + c + 11) % 2147483647
def tk (ns : List Int) (z : St) (m : Int) : Int × St :=
  if 0 < z.h then (z.h % m, ⟨z.k, z.s, z.h / m⟩)
  else match ns[z.k]? with
    | none => ((z.s * 48271 + 11) % 2147483647 / 7 % m, ⟨z.k + 1, (z.s * 48271 + 11) % 2147483647, z.h⟩)
    | some c => (c % m, ⟨z.k + 1, nextS z.s c, if 10 ^ 18 ≤ c then c / m else z.h⟩)
def St.ok (z : St) : Prop := 0 ≤ z.s ∧ z.s < 2147483647
def rowV (ns : List Int) (z : St) : List D := [.lst (ns.map .int), .int z.k, .int z.s, .int z.h]
theorem tk_ok {ns : List Int} {z : St} {m : Int} (h : z.ok) : (tk ns z m).2.ok := by
  have p : (0 : Int) < 2147483647 := by decide
  unfold tk
  split
  · exact h
  · split
    · exact ⟨Int.emod_nonneg _ (by decide), Int.emod_lt_of_pos _ p⟩
    · exact ⟨Int.emod_nonneg _ (by decide), Int.emod_lt_of_pos _ p⟩
theorem tk_lt {ns : List Int} {z : St} {m : Int} (hm : 0 < m) : 0 ≤ (tk ns z m).1 ∧ (tk ns z m).1 < m := by
  have e : m ≠ 0 := by omega
  unfold tk
  split
  · exact ⟨Int.emod_nonneg _ e, Int.emod_lt_of_pos _ hm⟩
  · split
    · exact ⟨Int.emod_nonneg _ e, Int.emod_lt_of_pos _ hm⟩
    · exact ⟨Int.emod_nonneg _ e, Int.emod_lt_of_pos _ hm⟩
theorem mulOk_of {i j : Int} (hi : i.natAbs < 2 ^ 64) (hj : j.natAbs < 2 ^ 64) : mulOk i j = true := by
  have e : (2 : Nat) ^ 64 ≤ 2 ^ 200000 := Nat.pow_le_pow_right (by decide) (by decide)
  unfold mulOk
  rw [Bool.and_eq_true, decide_eq_true_eq, decide_eq_true_eq]
  exact ⟨Nat.lt_of_lt_of_le hi e, Nat.lt_of_lt_of_le hj e⟩
theorem abs_lt_pow {m : Int} (hm : 0 < m) (h : m < 2 ^ 60) : m.natAbs < 2 ^ 9000 := by
  have e : (2 : Nat) ^ 60 ≤ 2 ^ 9000 := Nat.pow_le_pow_right (by decide) (by decide)
  have : m.natAbs < 2 ^ 60 := by omega
  exact Nat.lt_of_lt_of_le this e
end PN
end

section
set_option linter.all false
set_option maxRecDepth 100000
set_option maxHeartbeats 1000000
namespace PN
open PL
def ρT (ns : List Int) (z : St) (m : Int) : Env := [some (.w (.l (rowV ns z))), some (.d (.int m)), none, none]
theorem at0 {a b c d : D} : atI [a, b, c, d] 0 = some a := rfl
theorem at1 {a b c d : D} : atI [a, b, c, d] 1 = some b := rfl
theorem at2 {a b c d : D} : atI [a, b, c, d] 2 = some c := rfl
theorem at3 {a b c d : D} : atI [a, b, c, d] 3 = some d := rfl
theorem atN {ns : List Int} {k : Nat} {c : Int} (h : ns[k]? = some c) : atI (ns.map D.int) (k : Int) = some (.int c) := by
  have hk : k < ns.length := (List.getElem?_eq_some_iff.mp h).1
  show (match ixN (ns.map D.int).length (Int.ofNat k) with | some j => (ns.map D.int)[j]? | none => none) = _
  have e : ixN (ns.map D.int).length (Int.ofNat k) = some k := by
    show (if k < (ns.map D.int).length then some k else none) = _
    rw [List.length_map, if_pos hk]
  rw [e]
  show (ns.map D.int)[k]? = _
  rw [List.getElem?_map, h]; rfl
theorem ix1 : ixN 4 1 = some 1 := rfl
theorem ix2 : ixN 4 2 = some 2 := rfl
theorem ix3 : ixN 4 3 = some 3 := rfl
theorem taken_run (c : Ctx) (ns : List Int) (z : St) (m : Int) (hm : 0 < m) (hm2 : m < 2 ^ 60) (hz : z.ok) :
    ∃ x y, execSs c dTaken.body (ρT ns z m) = .ok (.rt (.v (.int (tk ns z m).1)), [some (.w (.l (rowV ns (tk ns z m).2))), some (.d (.int m)), x, y]) := by
  have f1 : (m.natAbs < 2 ^ 9000) = True := eq_true (abs_lt_pow hm hm2)
  have f2 : (0 < m) = True := eq_true hm
  have f3 : mulOk z.s 48271 = true := mulOk_of (by have := hz.1; have := hz.2; omega) (by decide)
  have f4 : ((7 : Int).natAbs < 2 ^ 9000) = True := eq_true (abs_lt_pow (m := 7) (by decide) (by decide))
  have f5 : ((7 : Nat) < 2 ^ 9000) = True := eq_true (abs_lt_pow (m := 7) (by decide) (by decide))
  unfold tk
  by_cases hh : 0 < z.h
  · simp [dTaken, execSs, execS, evIf, evT, evalE, ev2, ev1, evK, look, slot, ofO, Res.bind, ρT, rowV, cmpD, gtX, subD, at0, at1, at2, at3, boolR, hh, binD, modD, fdivD, b1D, intD, f1, f2, evD, takeR, take, OV.data, modO, gSet, isL, ix1, ix2, ix3]
  · rcases hc : ns[z.k]? with _ | c0
    · have hl : ns.length ≤ z.k := List.getElem?_eq_none_iff.mp hc
      have g : ((ns.length : Int) < (z.k : Int) + 1) = True := eq_true (by omega)
      simp [dTaken, execSs, execS, evIf, evT, evalE, ev2, ev1, evK, look, slot, ofO, Res.bind, ρT, rowV, cmpD, gtX, subD, at0, at1, at2, at3, boolR, hh, binD, modD, fdivD, b1D, intD, f1, f2, f3, f4, f5, evD, takeR, take, OV.data, modO, gSet, isL, ix1, ix2, ix3, addD, subtD, mulD, lenD, g]
    · have hl : z.k < ns.length := (List.getElem?_eq_some_iff.mp hc).1
      have g : ((ns.length : Int) < (z.k : Int) + 1) = False := eq_false (by omega)
      have g2 : (z.k : Int) + 1 - 1 = (z.k : Int) := by omega
      have g3 := atN hc
      by_cases hg : (1000000000000000000 : Int) ≤ c0
      · simp [dTaken, execSs, execS, evIf, evT, evalE, ev2, ev1, evK, look, slot, ofO, Res.bind, ρT, rowV, cmpD, gtX, geX, powD, subD, at0, at1, at2, at3, boolR, hh, binD, modD, fdivD, b1D, intD, f1, f2, f3, f4, f5, evD, takeR, take, OV.data, modO, gSet, isL, ix1, ix2, ix3, addD, subtD, mulD, lenD, g, g2, g3, hg, nextS]
      · simp [dTaken, execSs, execS, evIf, evT, evalE, ev2, ev1, evK, look, slot, ofO, Res.bind, ρT, rowV, cmpD, gtX, geX, powD, subD, at0, at1, at2, at3, boolR, hh, binD, modD, fdivD, b1D, intD, f1, f2, f3, f4, f5, evD, takeR, take, OV.data, modO, gSet, isL, ix1, ix2, ix3, addD, subtD, mulD, lenD, g, g2, g3, hg, nextS]
end PN
end

section
set_option linter.all false
set_option maxRecDepth 100000
set_option maxHeartbeats 1000000
namespace PN
open PL
variable {P : Prog} {wf n : Nat}
theorem taken_call (hT : P.get "_law_taken" = some dTaken) (ns : List Int) (z : St) (m : Int) (hm : 0 < m) (hm2 : m < 2 ^ 60) (hz : z.ok) :
    callF P wf (n + 1) "_law_taken" [.w (.l (rowV ns z)), .d (.int m)] = .ok (.v (.int (tk ns z m).1), [.l (rowV ns (tk ns z m).2)]) := by
  obtain ⟨x, y, e⟩ := taken_run ⟨fun g => (P.get g).map (·.io), callF P wf n, fun g => P.tolds.lookup g, wf⟩ ns z m hm hm2 hz
  unfold callF
  rw [hT]
  show (if okArgs dTaken.io _ = true then _ else _) = _
  rw [if_pos (show okArgs dTaken.io [.w (.l (rowV ns z)), .d (.int m)] = true from rfl)]
  show Res.bind (execSs _ dTaken.body (ρT ns z m)) _ = _
  rw [e]
  rfl
theorem at_nat {xs : List D} {i : Int} (h0 : 0 ≤ i) (h1 : i < xs.length) : atI xs i = xs[i.toNat]? := by
  obtain ⟨k, rfl⟩ := Int.eq_ofNat_of_zero_le h0
  have hk : k < xs.length := by omega
  show (match ixN xs.length (Int.ofNat k) with | some j => xs[j]? | none => none) = _
  have e : ixN xs.length (Int.ofNat k) = some k := by
    show (if k < xs.length then some k else none) = _
    rw [if_pos hk]
  rw [e]; rfl
theorem pick_run (c : Ctx) {r r' : List D} {xs : List D} {i : Int} {x : D} (io : c.io "_law_taken" = some [true, false]) (e : c.call "_law_taken" [.w (.l r), .d (.int xs.length)] = .ok (.v (.int i), [.l r'])) (ex : atI xs i = some x) :
    execSs c dPick.body [some (.w (.l r)), some (.d (.lst xs))] = .ok (.rt (.v x), [some (.w (.l r')), some (.d (.lst xs))]) := by
  simp [dPick, execSs, execS, evalE, io, evCall, evalAs, ev2, ev1, slot, Res.bind, b1D, lenD, look, ofO, evD, takeR, take, callGo, distinctR, passBy, evK, e, backTo, subD, ex]
theorem pick_call (hT : P.get "_law_taken" = some dTaken) (hP : P.get "_law_pick" = some dPick) (ns : List Int) (z : St) (xs : List D) (h0 : 0 < xs.length) (h1 : xs.length ≤ lineN) (hz : z.ok) {x : D} (hx : xs[(tk ns z xs.length).1.toNat]? = some x) :
    callF P wf (n + 2) "_law_pick" [.w (.l (rowV ns z)), .d (.lst xs)] = .ok (.v x, [.l (rowV ns (tk ns z xs.length).2)]) := by
  have hm : (0 : Int) < xs.length := by omega
  have hm2 : (xs.length : Int) < 2 ^ 60 := by unfold lineN at h1; omega
  have e := taken_call (P := P) (wf := wf) (n := n) hT ns z xs.length hm hm2 hz
  obtain ⟨b0, b1⟩ := tk_lt (ns := ns) (z := z) hm
  have ex := at_nat b0 b1
  rw [hx] at ex
  have io : (P.get "_law_taken").map (·.io) = some [true, false] := by rw [hT]; rfl
  have q := pick_run ⟨fun g => (P.get g).map (·.io), callF P wf (n + 1), fun g => P.tolds.lookup g, wf⟩ (x := x) io e ex
  rw [callF, hP]
  show (if okArgs dPick.io _ = true then _ else _) = _
  rw [if_pos (show okArgs dPick.io [.w (.l (rowV ns z)), .d (.lst xs)] = true from rfl)]
  show Res.bind (execSs _ dPick.body [some (.w (.l (rowV ns z))), some (.d (.lst xs))]) _ = _
  rw [q]
  rfl
end PN
end

section
set_option Elab.async false
set_option linter.all false
set_option maxRecDepth 100000
set_option maxHeartbeats 0
namespace Row
open PySem PySem.Spec PyProof.Rows L2
/-! the rows of the defs -/
section
open PL
def r_is_number : PLS.RowD := ⟨"is_number", ["value", "low", "high"], ["value", "low", "high"], [], ⟨[false, false, false], 3, (.cons (.ret (.and (.isi .int (.var 0)) (.and (.not (.isi .bool (.var 0))) (.chain .le .le (.var 1) (.var 0) (.var 2))))) .nil)⟩⟩
def r_are_kinds : PLS.RowD := ⟨"are_kinds", ["value", "least", "most"], ["value", "least", "most", "one"], [], ⟨[false, false, false], 4, (.cons (.ret (.and (.isi .tuple (.var 0)) (.and (.chain .le .le (.var 1) (.b1 .len (.var 0)) (.var 2)) (.b1 .all (.comp [3] (.one 3) (.e (.var 0)) .none (.call "is_number" (.cons (.var 3) (.cons (.con (.int 0)) (.cons (.con (.int 1)) .nil))))))))) .nil)⟩⟩
def r_is_order : PLS.RowD := ⟨"is_order", ["many", "value"], ["many", "value", "one"], [], ⟨[false, false], 3, (.cons (.ite (.or (.not (.isi .tuple (.var 1))) (.not (.b1 .all (.comp [2] (.one 2) (.e (.var 1)) .none (.call "is_number" (.cons (.var 2) (.cons (.con (.int 0)) (.cons (.bin .sub (.var 0) (.con (.int 1))) .nil)))))))) (.cons (.ret (.con (.bl false))) .nil) .nil) (.cons (.ret (.cmp .eq (.b1 .sorted (.var 1)) (.lrange (.var 0)))) .nil))⟩⟩
def r_is_move : PLS.RowD := ⟨"is_move", ["many", "nodes", "value"], ["many", "nodes", "value"], [], ⟨[false, false, false], 3, (.cons (.ret (.and (.cmp .eq (.b1 .len (.var 2)) (.con (.int 3))) (.and (.call "is_order" (.cons (.var 0) (.cons (.sub (.var 2) (.con (.int 1))) .nil))) (.call "is_number" (.cons (.sub (.var 2) (.con (.int 2))) (.cons (.con (.int 0)) (.cons (.bin .sub (.var 1) (.con (.int 1))) .nil))))))) .nil)⟩⟩
def r_is_lay : PLS.RowD := ⟨"is_lay", ["many", "value"], ["many", "value", "places", "one", "place"], [], ⟨[false, false], 5, (.cons (.ite (.or (.cmp .ne (.b1 .len (.var 1)) (.con (.int 2))) (.or (.not (.isi .tuple (.sub (.var 1) (.con (.int 1))))) (.not (.chain .le .le (.con (.int 1)) (.b1 .len (.sub (.var 1) (.con (.int 1)))) (.con (.int 2)))))) (.cons (.ret (.con (.bl false))) .nil) .nil) (.cons (.ite (.not (.b1 .all (.comp [3] (.one 3) (.e (.sub (.var 1) (.con (.int 1)))) .none (.and (.isi .tuple (.var 3)) (.cmp .eq (.b1 .len (.var 3)) (.con (.int 2))))))) (.cons (.ret (.con (.bl false))) .nil) .nil) (.cons (.asg 2 (.comp2 [3, 4] (.one 3) (.e (.sub (.var 1) (.con (.int 1)))) (.one 4) (.e (.var 3)) .none (.var 4))) (.cons (.ret (.and (.b1 .all (.comp [4] (.one 4) (.e (.var 2)) .none (.call "is_number" (.cons (.var 4) (.cons (.con (.int 0)) (.cons (.bin .sub (.var 0) (.con (.int 1))) .nil)))))) (.cmp .eq (.lenset (.var 2)) (.b1 .len (.var 2))))) .nil))))⟩⟩
def r_is_node : PLS.RowD := ⟨"is_node", ["many", "nodes", "value"], ["many", "nodes", "value"], [], ⟨[false, false, false], 3, (.cons (.ite (.or (.not (.isi .tuple (.var 2))) (.or (.cmp .eq (.var 2) (.tup .nil)) (.not (.isi .str (.sub (.var 2) (.con (.int 0))))))) (.cons (.ret (.con (.bl false))) .nil) .nil) (.cons (.ite (.cmp .eq (.sub (.var 2) (.con (.int 0))) (.con (.str [109, 111, 118, 101]))) (.cons (.ret (.call "is_move" (.cons (.var 0) (.cons (.var 1) (.cons (.var 2) .nil))))) .nil) .nil) (.cons (.ite (.cmp .eq (.sub (.var 2) (.con (.int 0))) (.con (.str [115, 104, 117, 102, 102, 108, 101]))) (.cons .never .nil) .nil) (.cons (.ite (.cmp .eq (.sub (.var 2) (.con (.int 0))) (.con (.str [116, 117, 114, 110]))) (.cons .never .nil) .nil) (.cons (.ite (.cmp .eq (.sub (.var 2) (.con (.int 0))) (.con (.str [108, 97, 121]))) (.cons (.ret (.call "is_lay" (.cons (.var 0) (.cons (.var 2) .nil)))) .nil) .nil) (.cons (.ret (.and (.cmp .eq (.sub (.var 2) (.con (.int 0))) (.con (.str [116, 101, 108, 108]))) (.and (.cmp .eq (.b1 .len (.var 2)) (.con (.int 2))) (.call "are_kinds" (.cons (.sub (.var 2) (.con (.int 1))) (.cons (.con (.int 1)) (.cons (.con (.int 2)) .nil))))))) .nil))))))⟩⟩
def r_card_count : PLS.RowD := ⟨"card_count", ["way"], ["way"], [], ⟨[false], 1, (.cons (.ret (.bin .add (.bin .mul (.con (.int 2)) (.sub (.var 0) (.con (.int 0)))) (.b1 .len (.sub (.var 0) (.con (.int 1)))))) .nil)⟩⟩
def r_wrong_of : PLS.RowD := ⟨"wrong_of", ["value"], ["value", "at", "ends", "node"], [], ⟨[false], 4, (.cons (.ite (.or (.not (.isi .tuple (.var 0))) (.cmp .ne (.b1 .len (.var 0)) (.con (.int 3)))) (.cons (.ret (.tup (.cons (.con (.str [102, 111, 114, 109])) (.cons (.con .non) .nil)))) .nil) .nil) (.cons (.ite (.not (.call "is_number" (.cons (.sub (.var 0) (.con (.int 0))) (.cons (.con (.int 1)) (.cons (.glo "MOST_BITS" 3) .nil))))) (.cons (.ret (.tup (.cons (.con (.str [98, 105, 116, 115])) (.cons (.con .non) .nil)))) .nil) .nil) (.cons (.ite (.not (.call "are_kinds" (.cons (.sub (.var 0) (.con (.int 1))) (.cons (.con (.int 0)) (.cons (.bin .sub (.glo "MOST_CARDS" 8) (.bin .mul (.con (.int 2)) (.sub (.var 0) (.con (.int 0))))) .nil))))) (.cons (.ret (.tup (.cons (.con (.str [104, 101, 108, 112, 115])) (.cons (.con .non) .nil)))) .nil) .nil) (.cons (.ite (.or (.not (.isi .tuple (.sub (.var 0) (.con (.int 2))))) (.not (.chain .le .le (.con (.int 1)) (.b1 .len (.sub (.var 0) (.con (.int 2)))) (.glo "MOST_NODES" 24)))) (.cons (.ret (.tup (.cons (.con (.str [110, 111, 100, 101, 115])) (.cons (.con .non) .nil)))) .nil) .nil) (.cons (.for (.one 1) (.rng1 (.b1 .len (.sub (.var 0) (.con (.int 2))))) (.cons (.ite (.not (.call "is_node" (.cons (.call "card_count" (.cons (.var 0) .nil)) (.cons (.b1 .len (.sub (.var 0) (.con (.int 2)))) (.cons (.sub (.sub (.var 0) (.con (.int 2))) (.var 1)) .nil))))) (.cons (.ret (.tup (.cons (.con (.str [110, 111, 100, 101])) (.cons (.var 1) .nil)))) .nil) .nil) .nil)) (.cons (.asg 2 (.comp [3] (.one 3) (.e (.sub (.var 0) (.con (.int 2)))) (.some (.cmp .isin (.sub (.var 3) (.con (.int 0))) (.tup (.cons (.con (.str [108, 97, 121])) (.cons (.con (.str [116, 101, 108, 108])) .nil))))) (.var 3))) (.cons (.ite (.or (.cmp .gt (.lenset (.comp [3] (.one 3) (.e (.var 2)) .none (.sub (.var 3) (.con (.int 0))))) (.con (.int 1))) (.cmp .gt (.lenset (.comp [3] (.one 3) (.e (.var 2)) .none (.b1 .len (.sub (.var 3) (.con (.int 1)))))) (.con (.int 1)))) (.cons (.ret (.tup (.cons (.con (.str [101, 110, 100, 115])) (.cons (.con .non) .nil)))) .nil) .nil) (.cons (.ret (.con .non)) .nil))))))))⟩⟩
def r_is_way : PLS.RowD := ⟨"is_way", ["value"], ["value"], [], ⟨[false], 1, (.cons (.ret (.cmp .is (.call "wrong_of" (.cons (.var 0) .nil)) (.con .non))) .nil)⟩⟩
def r_need_way : PLS.RowD := ⟨"need_way", ["value"], ["value", "wrong"], [], ⟨[false], 2, (.cons (.asg 1 (.call "wrong_of" (.cons (.var 0) .nil))) (.cons (.ite (.cmp .isnot (.var 1) (.con .non)) (.cons (.raise "BadWay" (.cons (.sub (.var 1) (.con (.int 0))) (.cons (.sub (.var 1) (.con (.int 1))) .nil))) .nil) .nil) .nil))⟩⟩
def r_inputs_of : PLS.RowD := ⟨"inputs_of", ["way"], ["way", "found", "k", "one", "bit"], [], ⟨[false], 5, (.cons (.asg 1 (.lst (.cons (.tup .nil) .nil))) (.cons (.for (.one 2) (.rng1 (.sub (.var 0) (.con (.int 0)))) (.cons (.asg 1 (.comp2 [3, 4] (.one 3) (.e (.var 1)) (.one 4) (.e (.tup (.cons (.con (.int 0)) (.cons (.con (.int 1)) .nil)))) .none (.tup (.star (.var 3) (.cons (.var 4) .nil))))) .nil)) (.cons (.ret (.var 1)) .nil)))⟩⟩
def r_inputs : PLS.RowD := ⟨"inputs", ["way"], ["way"], [], ⟨[false], 1, (.cons (.expr (.call "need_way" (.cons (.var 0) .nil))) (.cons (.ret (.b1 .tuple (.call "inputs_of" (.cons (.var 0) .nil)))) .nil))⟩⟩
def r_need_input : PLS.RowD := ⟨"need_input", ["way", "value"], ["way", "value"], [], ⟨[false, false], 2, (.cons (.ite (.not (.call "are_kinds" (.cons (.var 1) (.cons (.sub (.var 0) (.con (.int 0))) (.cons (.sub (.var 0) (.con (.int 0))) .nil))))) (.cons (.raise "BadInput" .nil) .nil) .nil) .nil)⟩⟩
def r_first_row : PLS.RowD := ⟨"first_row", ["way", "value"], ["way", "value"], [], ⟨[false, false], 2, (.cons (.expr (.call "need_way" (.cons (.var 0) .nil))) (.cons (.expr (.call "need_input" (.cons (.var 0) (.cons (.var 1) .nil)))) (.cons .never .nil)))⟩⟩
def r_is_wish : PLS.RowD := ⟨"is_wish", ["way", "value"], ["way", "value", "one"], [], ⟨[false, false], 3, (.cons (.ite (.or (.not (.isi .tuple (.var 1))) (.cmp .ne (.b1 .len (.var 1)) (.b1 .len (.call "inputs_of" (.cons (.var 0) .nil))))) (.cons (.ret (.con (.bl false))) .nil) .nil) (.cons (.ite (.not (.b1 .all (.comp [2] (.one 2) (.e (.var 1)) .none (.call "are_kinds" (.cons (.var 2) (.cons (.con (.int 1)) (.cons (.con (.int 2)) .nil))))))) (.cons (.ret (.con (.bl false))) .nil) .nil) (.cons (.ret (.cmp .eq (.lenset (.comp [2] (.one 2) (.e (.var 1)) .none (.b1 .len (.var 2)))) (.con (.int 1)))) .nil)))⟩⟩
def r_need_wish : PLS.RowD := ⟨"need_wish", ["way", "value"], ["way", "value"], [], ⟨[false, false], 2, (.cons (.ite (.not (.call "is_wish" (.cons (.var 0) (.cons (.var 1) .nil)))) (.cons (.raise "BadWish" .nil) .nil) .nil) .nil)⟩⟩
def r_is_sound : PLS.RowD := ⟨"is_sound", ["way", "wish"], ["way", "wish", "found"], [], ⟨[false, false], 3, (.cons (.expr (.call "need_way" (.cons (.var 0) .nil))) (.cons (.expr (.call "need_wish" (.cons (.var 0) (.cons (.var 1) .nil)))) (.cons .never (.cons .never .nil))))⟩⟩
def r_sound_table : PLS.RowD := ⟨"sound_table", ["way", "wish"], ["way", "wish", "found"], [], ⟨[false, false], 3, (.cons (.expr (.call "need_way" (.cons (.var 0) .nil))) (.cons (.expr (.call "need_wish" (.cons (.var 0) (.cons (.var 1) .nil)))) (.cons .never (.cons .never .nil))))⟩⟩
def r_is_place : PLS.RowD := ⟨"is_place", ["way", "value"], ["way", "value", "entry"], [], ⟨[false, false], 3, (.cons .never (.cons .never (.cons .never .nil)))⟩⟩
def r_shows_sound : PLS.RowD := ⟨"shows_sound", ["way", "wish", "value"], ["way", "wish", "value", "place", "known", "lots", "one"], [], ⟨[false, false, false], 7, (.cons (.expr (.call "need_way" (.cons (.var 0) .nil))) (.cons (.expr (.call "need_wish" (.cons (.var 0) (.cons (.var 1) .nil)))) (.cons (.ite (.or (.not (.isi .tuple (.var 2))) (.not (.b1 .all (.comp [6] (.one 6) (.e (.var 2)) .none (.call "is_place" (.cons (.var 0) (.cons (.var 6) .nil))))))) (.cons (.ret (.con (.bl false))) .nil) .nil) (.cons .never (.cons (.for (.one 3) (.e (.var 2)) (.cons .never (.cons (.ite (.cmp .is (.sub (.var 4) (.var 3)) (.con .non)) (.cons (.ret (.con (.bl false))) .nil) .nil) .nil))) (.cons .never (.cons (.ite (.cmp .ne (.comp [3] (.one 3) (.e (.var 4)) (.some (.cmp .ne (.comp [6] (.one 6) (.e (.sub (.var 4) (.var 3))) (.some (.cmp .notin (.var 6) (.var 4))) (.var 6)) (.lst .nil))) (.var 3)) (.lst .nil)) (.cons (.ret (.con (.bl false))) .nil) .nil) (.cons .never .nil))))))))⟩⟩
def r_ends_surely : PLS.RowD := ⟨"ends_surely", ["way", "wish"], ["way", "wish", "found"], [], ⟨[false, false], 3, (.cons (.expr (.call "need_way" (.cons (.var 0) .nil))) (.cons (.expr (.call "need_wish" (.cons (.var 0) (.cons (.var 1) .nil)))) (.cons .never (.cons .never .nil))))⟩⟩
def r_need_coins : PLS.RowD := ⟨"need_coins", ["value"], ["value", "one"], [], ⟨[false], 2, (.cons (.ite (.or (.not (.isi .tuple (.var 0))) (.or (.cmp .gt (.b1 .len (.var 0)) (.glo "MOST_STEPS" 100)) (.not (.b1 .all (.comp [1] (.one 1) (.e (.var 0)) .none (.call "is_number" (.cons (.var 1) (.cons (.con (.int 0)) (.cons (.con (.int 839)) .nil))))))))) (.cons (.raise "BadCoins" .nil) .nil) .nil) .nil)⟩⟩
def r_hand : PLS.RowD := ⟨"hand", ["way", "one", "coins"], ["way", "one", "coins", "step", "at", "row", "sights", "used", "node", "told", "sight", "ways"], [], ⟨[false, false, false], 12, (.cons (.expr (.call "need_way" (.cons (.var 0) .nil))) (.cons (.expr (.call "need_input" (.cons (.var 0) (.cons (.var 1) .nil)))) (.cons (.expr (.call "need_coins" (.cons (.var 2) .nil))) (.cons .never (.cons (.for (.one 3) (.rng1 (.glo "MOST_STEPS" 100)) (.cons (.asg 8 (.sub (.sub (.var 0) (.con (.int 2))) (.var 4))) (.cons (.ite (.cmp .eq (.sub (.var 8) (.con (.int 0))) (.con (.str [109, 111, 118, 101]))) (.cons .never .nil) (.cons (.ite (.cmp .eq (.sub (.var 8) (.con (.int 0))) (.con (.str [115, 104, 117, 102, 102, 108, 101]))) (.cons (.ite (.cmp .eq (.var 7) (.b1 .len (.var 2))) (.cons (.ret (.tup (.cons (.var 6) (.cons (.tup (.cons (.con (.str [109, 111, 114, 101])) (.cons (.var 4) .nil))) (.cons (.var 5) .nil))))) .nil) .nil) (.cons .never .nil)) (.cons (.ite (.cmp .eq (.sub (.var 8) (.con (.int 0))) (.con (.str [116, 117, 114, 110]))) (.cons .never (.cons (.asg 6 (.tup (.star (.var 6) (.cons (.var 10) .nil)))) (.cons (.ite (.cmp .notin (.var 10) (.var 11)) (.cons (.ret (.tup (.cons (.var 6) (.cons (.tup (.cons (.con (.str [108, 111, 115, 116])) (.cons (.var 4) .nil))) (.cons (.var 5) .nil))))) .nil) .nil) (.cons (.asg 4 (.sub (.var 11) (.var 10))) .nil)))) (.cons .never (.cons (.ret (.tup (.cons (.var 6) (.cons (.tup (.cons (.sub (.var 8) (.con (.int 0))) (.cons (.var 9) .nil))) (.cons (.var 5) .nil))))) .nil))) .nil)) .nil)) .nil))) (.cons (.ret (.tup (.cons (.var 6) (.cons (.tup (.cons (.con (.str [108, 111, 110, 103])) (.cons (.var 4) .nil))) (.cons (.var 5) .nil))))) .nil))))))⟩⟩
def r_shuffles_passed : PLS.RowD := ⟨"shuffles_passed", ["way", "one", "coins"], ["way", "one", "coins", "many"], [], ⟨[false, false, false], 4, (.cons (.expr (.call "need_way" (.cons (.var 0) .nil))) (.cons (.expr (.call "need_input" (.cons (.var 0) (.cons (.var 1) .nil)))) (.cons (.expr (.call "need_coins" (.cons (.var 2) .nil))) (.cons (.for (.one 3) (.rng1 (.bin .add (.b1 .len (.var 2)) (.con (.int 1)))) (.cons (.ite (.cmp .ne (.sub (.sub (.call "hand" (.cons (.var 0) (.cons (.var 1) (.cons (.slice (.var 2) .none (.some (.var 3))) .nil)))) (.con (.int 1))) (.con (.int 0))) (.con (.str [109, 111, 114, 101]))) (.cons (.ret (.var 3)) .nil) .nil) .nil)) (.cons (.ret (.b1 .len (.var 2))) .nil)))))⟩⟩
def r_need_sights : PLS.RowD := ⟨"need_sights", ["value"], ["value", "one"], [], ⟨[false], 2, (.cons (.ite (.or (.not (.isi .tuple (.var 0))) (.or (.cmp .gt (.b1 .len (.var 0)) (.glo "MOST_TURNS" 6)) (.not (.b1 .all (.comp [1] (.one 1) (.e (.var 0)) .none (.call "are_kinds" (.cons (.var 1) (.cons (.con (.int 1)) (.cons (.con (.int 8)) .nil))))))))) (.cons (.raise "BadSights" .nil) .nil) .nil) .nil)⟩⟩
def r_sight_chance : PLS.RowD := ⟨"sight_chance", ["way", "one", "sights"], ["way", "one", "sights"], [], ⟨[false, false, false], 3, (.cons (.expr (.call "need_way" (.cons (.var 0) .nil))) (.cons (.expr (.call "need_input" (.cons (.var 0) (.cons (.var 1) .nil)))) (.cons (.expr (.call "need_sights" (.cons (.var 2) .nil))) (.cons .never .nil))))⟩⟩
def r_need_turns : PLS.RowD := ⟨"need_turns", ["value"], ["value"], [], ⟨[false], 1, (.cons (.ite (.not (.call "is_number" (.cons (.var 0) (.cons (.con (.int 0)) (.cons (.glo "MOST_TURNS" 6) .nil))))) (.cons (.raise "BadNumber" .nil) .nil) .nil) .nil)⟩⟩
def r_first_leak : PLS.RowD := ⟨"first_leak", ["way", "wish", "many"], ["way", "wish", "many", "sights", "best", "lot", "pairs", "one", "other", "chances"], [], ⟨[false, false, false], 10, (.cons (.expr (.call "need_way" (.cons (.var 0) .nil))) (.cons (.expr (.call "need_wish" (.cons (.var 0) (.cons (.var 1) .nil)))) (.cons (.expr (.call "need_turns" (.cons (.var 2) .nil))) (.cons .never (.cons (.ret (.con .non)) .nil)))))⟩⟩
def r_first_wrong : PLS.RowD := ⟨"first_wrong", ["way", "wish", "many"], ["way", "wish", "many", "some", "sights", "k", "ends", "lost"], [], ⟨[false, false, false], 8, (.cons (.expr (.call "need_way" (.cons (.var 0) .nil))) (.cons (.expr (.call "need_wish" (.cons (.var 0) (.cons (.var 1) .nil)))) (.cons (.expr (.call "need_turns" (.cons (.var 2) .nil))) (.cons (.asg 3 (.call "inputs_of" (.cons (.var 0) .nil))) (.cons .never (.cons (.ret (.con .non)) .nil))))))⟩⟩
def r_best_guess : PLS.RowD := ⟨"best_guess", ["way", "one", "other", "many"], ["way", "one", "other", "many", "every", "found", "first", "second", "key"], [], ⟨[false, false, false, false], 9, (.cons (.expr (.call "need_way" (.cons (.var 0) .nil))) (.cons (.expr (.call "need_input" (.cons (.var 0) (.cons (.var 1) .nil)))) (.cons (.expr (.call "need_input" (.cons (.var 0) (.cons (.var 2) .nil)))) (.cons (.expr (.call "need_turns" (.cons (.var 3) .nil))) (.cons .never (.cons (.asg 4 (.lst (.star (.var 6) (.star (.comp [8] (.one 8) (.e (.var 7)) (.some (.cmp .notin (.var 8) (.var 6))) (.var 8)) .nil)))) (.cons .never (.cons .never .nil))))))))⟩⟩
def r_mean_turns : PLS.RowD := ⟨"mean_turns", ["way", "one"], ["way", "one"], [], ⟨[false, false], 2, (.cons (.expr (.call "need_way" (.cons (.var 0) .nil))) (.cons (.expr (.call "need_input" (.cons (.var 0) (.cons (.var 1) .nil)))) (.cons .never .nil)))⟩⟩
def r_mean_shuffles : PLS.RowD := ⟨"mean_shuffles", ["way", "one"], ["way", "one"], [], ⟨[false, false], 2, (.cons (.expr (.call "need_way" (.cons (.var 0) .nil))) (.cons (.expr (.call "need_input" (.cons (.var 0) (.cons (.var 1) .nil)))) (.cons .never .nil)))⟩⟩
def r_written : PLS.RowD := ⟨"written", ["way"], ["way", "lines", "node", "line"], [], ⟨[false], 4, (.cons (.expr (.call "need_way" (.cons (.var 0) .nil))) (.cons .never (.cons .never .nil)))⟩⟩
def r__law_taken : PLS.RowD := ⟨"_law_taken", ["_law_row", "_law_many"], ["_law_row", "_law_many", "_law_cell", "_law_found"], [0], ⟨[true, false], 4, (.cons (.ite (.cmp .gt (.sub (.var 0) (.con (.int 3))) (.con (.int 0))) (.cons (.asg 3 (.bin .mod (.b1 .int (.sub (.var 0) (.con (.int 3)))) (.var 1))) (.cons (.setI (.var 0) (.con (.int 3)) (.bin .fdiv (.sub (.var 0) (.con (.int 3))) (.var 1))) (.cons (.ret (.var 3)) .nil))) .nil) (.cons (.setI (.var 0) (.con (.int 1)) (.bin .add (.sub (.var 0) (.con (.int 1))) (.con (.int 1)))) (.cons (.ite (.cmp .gt (.sub (.var 0) (.con (.int 1))) (.b1 .len (.sub (.var 0) (.con (.int 0))))) (.cons (.setI (.var 0) (.con (.int 2)) (.bin .mod (.b1 .int (.bin .add (.bin .mul (.sub (.var 0) (.con (.int 2))) (.con (.int 48271))) (.con (.int 11)))) (.con (.int 2147483647)))) (.cons (.ret (.bin .mod (.b1 .int (.bin .fdiv (.sub (.var 0) (.con (.int 2))) (.con (.int 7)))) (.var 1))) .nil)) .nil) (.cons (.asg 2 (.sub (.sub (.var 0) (.con (.int 0))) (.bin .sub (.sub (.var 0) (.con (.int 1))) (.con (.int 1))))) (.cons (.setI (.var 0) (.con (.int 2)) (.bin .mod (.b1 .int (.bin .add (.bin .add (.bin .mul (.sub (.var 0) (.con (.int 2))) (.con (.int 48271))) (.var 2)) (.con (.int 11)))) (.con (.int 2147483647)))) (.cons (.ite (.cmp .ge (.var 2) (.bin .pow (.con (.int 10)) (.con (.int 18)))) (.cons (.setI (.var 0) (.con (.int 3)) (.bin .fdiv (.var 2) (.var 1))) .nil) .nil) (.cons (.ret (.bin .mod (.b1 .int (.var 2)) (.var 1))) .nil)))))))⟩⟩
def r__law_pick : PLS.RowD := ⟨"_law_pick", ["_law_row", "_law_things"], ["_law_row", "_law_things"], [0], ⟨[true, false], 2, (.cons (.ret (.sub (.var 1) (.call "_law_taken" (.cons (.var 0) (.cons (.b1 .len (.var 1)) .nil))))) .nil)⟩⟩
def r_law : PLS.RowD := ⟨"law", ["_law_script"], ["_law_script", "_law_row", "_law_some", "_law_told", "_law_good", "_law_wish", "_law_bad", "_law_word_here", "_law_ask", "_law_value", "_law_one", "_law_other"], [], ⟨[false], 12, (.cons (.own 1 (.lst (.cons (.var 0) (.cons (.con (.int 0)) (.cons (.con (.int 21009)) (.cons (.con (.int 0)) .nil)))))) (.cons (.par [(4, false), (5, false)] (.cons (.tup (.cons (.con (.int 1)) (.cons (.tup .nil) (.cons (.tup (.cons (.tup (.cons (.con (.str [108, 97, 121])) (.cons (.tup (.cons (.tup (.cons (.con (.int 0)) (.cons (.con (.int 1)) .nil))) .nil)) .nil))) .nil)) .nil)))) (.cons (.tup (.cons (.tup (.cons (.con (.int 0)) .nil)) (.cons (.tup (.cons (.con (.int 1)) .nil)) .nil))) .nil))) (.cons (.asg 2 (.lst (.cons (.tup (.cons (.con .non) (.cons (.con (.str [102, 111, 114, 109, 110, 111, 110, 101])) .nil))) (.cons (.tup (.cons (.lst (.cons (.con (.int 1)) (.cons (.tup .nil) (.cons (.tup (.cons (.tup (.cons (.con (.str [116, 101, 108, 108])) (.cons (.tup (.cons (.con (.int 0)) .nil)) .nil))) .nil)) .nil)))) (.cons (.con (.str [102, 111, 114, 109, 110, 111, 110, 101])) .nil))) (.cons (.tup (.cons (.tup (.cons (.con (.int 4)) (.cons (.tup .nil) (.cons (.tup (.cons (.tup (.cons (.con (.str [116, 101, 108, 108])) (.cons (.tup (.cons (.con (.int 0)) .nil)) .nil))) .nil)) .nil)))) (.cons (.con (.str [98, 105, 116, 115, 110, 111, 110, 101])) .nil))) (.cons (.tup (.cons (.tup (.cons (.con (.int 1)) (.cons (.tup (.cons (.con (.int 2)) .nil)) (.cons (.tup (.cons (.tup (.cons (.con (.str [116, 101, 108, 108])) (.cons (.tup (.cons (.con (.int 0)) .nil)) .nil))) .nil)) .nil)))) (.cons (.con (.str [104, 101, 108, 112, 115, 110, 111, 110, 101])) .nil))) .nil)))))) (.cons (.asg 2 (.bin .add (.var 2) (.lst (.cons (.tup (.cons (.tup (.cons (.con (.int 1)) (.cons (.tup .nil) (.cons (.tup .nil) .nil)))) (.cons (.con (.str [110, 111, 100, 101, 115, 110, 111, 110, 101])) .nil))) (.cons (.tup (.cons (.tup (.cons (.con (.int 1)) (.cons (.tup .nil) (.cons (.tup (.cons (.tup (.cons (.con (.str [116, 101, 108, 108])) (.cons (.tup (.cons (.con (.int 0)) .nil)) .nil))) (.cons (.tup (.cons (.con (.str [108, 97, 121])) (.cons (.tup (.cons (.tup (.cons (.con (.int 0)) (.cons (.con (.int 2)) .nil))) .nil)) .nil))) .nil))) .nil)))) (.cons (.con (.str [110, 111, 100, 101, 49])) .nil))) (.cons (.tup (.cons (.tup (.cons (.con (.int 1)) (.cons (.tup .nil) (.cons (.tup (.cons (.tup (.cons (.con (.str [116, 101, 108, 108])) (.cons (.tup (.cons (.con (.int 0)) .nil)) .nil))) (.cons (.tup (.cons (.con (.str [116, 101, 108, 108])) (.cons (.tup (.cons (.con (.int 0)) (.cons (.con (.int 1)) .nil))) .nil))) .nil))) .nil)))) (.cons (.con (.str [101, 110, 100, 115, 110, 111, 110, 101])) .nil))) .nil)))))) (.cons (.asgT [6, 7] (.call "_law_pick" (.cons (.var 1) (.cons (.bin .add (.var 2) (.lst (.cons (.tup (.cons (.tup (.cons (.con (.int 1)) (.cons (.tup .nil) (.cons (.tup (.cons (.tup (.cons (.con (.str [116, 101, 108, 108])) (.cons (.tup (.cons (.con (.int 0)) .nil)) .nil))) (.cons (.tup (.cons (.con (.str [108, 97, 121])) (.cons (.tup (.cons (.tup (.cons (.con (.int 0)) (.cons (.con (.int 1)) .nil))) .nil)) .nil))) .nil))) .nil)))) (.cons (.con (.str [101, 110, 100, 115, 110, 111, 110, 101])) .nil))) (.cons (.tup (.cons (.tup (.cons (.con (.int 1)) (.cons (.tup .nil) (.cons (.tup (.cons (.tup (.cons (.con (.str [109, 111, 118, 101])) (.cons (.tup (.cons (.con (.int 0)) (.cons (.con (.int 0)) .nil))) (.cons (.con (.int 0)) .nil)))) .nil)) .nil)))) (.cons (.con (.str [110, 111, 100, 101, 48])) .nil))) .nil)))) .nil)))) (.cons (.ite (.or (.cmp .isnot (.call "is_way" (.cons (.var 6) .nil)) (.con (.bl false))) (.cmp .isnot (.call "is_way" (.cons (.var 4) .nil)) (.con (.bl true)))) (.cons (.ret (.con (.bl false))) .nil) .nil) (.cons (.own 3 (.comp [8] (.one 8) (.e (.lst (.cons (.fnv "inputs") (.cons (.fnv "written") .nil)))) .none (.told "_law_word" (.callv 8 (.cons (.var 6) .nil))))) (.cons (.own 3 (.bin .add (.var 3) (.comp [8] (.one 8) (.e (.lst (.cons (.fnv "first_row") (.cons (.fnv "is_sound") (.cons (.fnv "sound_table") (.cons (.fnv "ends_surely") (.cons (.fnv "mean_turns") (.cons (.fnv "mean_shuffles") .nil)))))))) .none (.told "_law_word" (.callv 8 (.cons (.var 6) (.cons (.con .non) .nil))))))) (.cons (.own 3 (.bin .add (.var 3) (.comp [8] (.one 8) (.e (.lst (.cons (.fnv "shows_sound") (.cons (.fnv "sight_chance") (.cons (.fnv "first_leak") (.cons (.fnv "first_wrong") (.cons (.fnv "hand") (.cons (.fnv "shuffles_passed") .nil)))))))) .none (.told "_law_word" (.callv 8 (.cons (.var 6) (.cons (.con .non) (.cons (.con .non) .nil)))))))) (.cons (.expr (.append (.var 3) (.told "_law_word" (.call "best_guess" (.cons (.var 6) (.cons (.con .non) (.cons (.con .non) (.cons (.con .non) .nil)))))))) (.cons (.ite (.cmp .ne (.var 3) (.lrep (.cons (.var 7) .nil) (.con (.int 15)))) (.cons (.ret (.con (.bl false))) .nil) .nil) (.cons (.own 3 (.comp [8, 9] (.many [8, 9]) (.e (.lst (.cons (.tup (.cons (.fnv "is_sound") (.cons (.tup (.cons (.tup (.cons (.con (.int 0)) .nil)) .nil)) .nil))) (.cons (.tup (.cons (.fnv "sound_table") (.cons (.con .non) .nil))) (.cons (.tup (.cons (.fnv "ends_surely") (.cons (.tup (.cons (.tup (.cons (.con (.int 0)) .nil)) (.cons (.tup (.cons (.con (.int 2)) .nil)) .nil))) .nil))) .nil))))) .none (.told "_law_word" (.callv 8 (.cons (.var 4) (.cons (.var 9) .nil)))))) (.cons (.own 3 (.bin .add (.var 3) (.comp [8] (.one 8) (.e (.lst (.cons (.fnv "shows_sound") (.cons (.fnv "first_leak") (.cons (.fnv "first_wrong") .nil))))) .none (.told "_law_word" (.callv 8 (.cons (.var 4) (.cons (.tup (.cons (.tup (.cons (.con (.int 0)) .nil)) (.cons (.tup (.cons (.con (.int 0)) (.cons (.con (.int 1)) .nil))) .nil))) (.cons (.con .non) .nil)))))))) (.cons (.ite (.cmp .ne (.var 3) (.lrep (.cons (.con (.str [119, 105, 115, 104])) .nil) (.con (.int 6)))) (.cons (.ret (.con (.bl false))) .nil) .nil) (.cons (.own 3 (.comp [8] (.one 8) (.e (.lst (.cons (.fnv "first_row") (.cons (.fnv "mean_turns") (.cons (.fnv "mean_shuffles") .nil))))) .none (.told "_law_word" (.callv 8 (.cons (.var 4) (.cons (.tup (.cons (.con (.int 2)) .nil)) .nil)))))) (.cons (.own 3 (.bin .add (.var 3) (.comp [8] (.one 8) (.e (.lst (.cons (.fnv "sight_chance") (.cons (.fnv "hand") (.cons (.fnv "shuffles_passed") .nil))))) .none (.told "_law_word" (.callv 8 (.cons (.var 4) (.cons (.con .non) (.cons (.con .non) .nil)))))))) (.cons (.own 3 (.bin .add (.var 3) (.comp [10, 11] (.many [10, 11]) (.e (.lst (.cons (.tup (.cons (.tup (.cons (.con (.int 2)) .nil)) (.cons (.tup (.cons (.con (.int 0)) .nil)) .nil))) (.cons (.tup (.cons (.tup (.cons (.con (.int 0)) .nil)) (.cons (.tup (.cons (.con (.int 0)) (.cons (.con (.int 0)) .nil))) .nil))) .nil)))) .none (.told "_law_word" (.call "best_guess" (.cons (.var 4) (.cons (.var 10) (.cons (.var 11) (.cons (.con .non) .nil))))))))) (.cons (.ite (.cmp .ne (.var 3) (.lrep (.cons (.con (.str [105, 110, 112, 117, 116])) .nil) (.con (.int 8)))) (.cons (.ret (.con (.bl false))) .nil) .nil) (.cons (.own 3 (.lst (.cons (.told "_law_word" (.call "sight_chance" (.cons (.var 4) (.cons (.tup (.cons (.con (.int 0)) .nil)) (.cons (.con .non) .nil))))) .nil))) (.cons (.expr (.append (.var 3) (.told "_law_word" (.call "hand" (.cons (.var 4) (.cons (.tup (.cons (.con (.int 0)) .nil)) (.cons (.con .non) .nil))))))) (.cons (.expr (.append (.var 3) (.told "_law_word" (.call "best_guess" (.cons (.var 4) (.cons (.tup (.cons (.con (.int 0)) .nil)) (.cons (.tup (.cons (.con (.int 1)) .nil)) (.cons (.con (.int 7)) .nil)))))))) (.cons (.expr (.append (.var 3) (.told "_law_word" (.call "first_leak" (.cons (.var 4) (.cons (.var 5) (.cons (.con .non) .nil))))))) (.cons (.ret (.and (.cmp .eq (.var 3) (.lst (.cons (.con (.str [115, 105, 103, 104, 116, 115])) (.cons (.con (.str [99, 111, 105, 110, 115])) (.cons (.con (.str [110, 117, 109, 98, 101, 114])) (.cons (.con (.str [110, 117, 109, 98, 101, 114])) .nil)))))) (.cmp .is (.call "shows_sound" (.cons (.var 4) (.cons (.var 5) (.cons (.con .non) .nil)))) (.con (.bl false))))) .nil)))))))))))))))))))))))⟩⟩
def t__law_word : PLS.ToldR := ⟨"_law_word", "_law_work", ["_law_work", "e"], ⟨false, [("BadWay", (.cat 1)), ("BadWish", (.con (.str [119, 105, 115, 104]))), ("BadInput", (.con (.str [105, 110, 112, 117, 116]))), ("BadSights", (.con (.str [115, 105, 103, 104, 116, 115]))), ("BadCoins", (.con (.str [99, 111, 105, 110, 115]))), ("BadNumber", (.con (.str [110, 117, 109, 98, 101, 114]))), ("DeckError", (.con (.str [111, 116, 104, 101, 114])))], (.str [111, 107]), ["BadInput", "BadWish", "BadCoins", "BadSights", "BadNumber", "BadWay"]⟩⟩
end
def rows0 : List PLS.RowD := [r_is_number, r_are_kinds, r_is_order, r_is_move, r_is_lay, r_is_node, r_card_count, r_wrong_of, r_is_way, r_need_way, r_inputs_of, r_inputs, r_need_input, r_first_row, r_is_wish, r_need_wish, r_is_sound, r_sound_table, r_is_place, r_shows_sound, r_ends_surely, r_need_coins, r_hand, r_shuffles_passed, r_need_sights, r_sight_chance, r_need_turns, r_first_leak, r_first_wrong, r_best_guess]
def rows1 : List PLS.RowD := [r_mean_turns, r_mean_shuffles, r_written, r__law_taken, r__law_pick, r_law]
def rows : List PLS.RowD := rows0 ++ rows1
abbrev prog : Program := PySem.Challenge.pw_silentdecks_k09_ways_refused
def top (i : Nat) : Stmt := prog.main.body.getD i (.Pass ⟨0, 0, 0, 0⟩)
def mkD (i : Nat) : He.DefD := match top i with
  | .FunctionDef n a b _ _ _ sc _ _ _ => ⟨(n, none), n, n, a, b, sc, [], []⟩
  | _ => ⟨("", none), "", "", ⟨[], [], none, [], [], none, []⟩, [], ⟨.function, [], false, false, []⟩, [], []⟩
def mkX (i : Nat) (name sn n1 n2 : String) : PLS.XClsD := match top i with
  | .ClassDef _ _ _ (.FunctionDef _ a b _ _ _ sc _ _ _ :: _) _ _ _ _ _ _ _ => ⟨name, sn, n1, n2, Str.ofString name ++ ".__init__", a, b, sc⟩
  | .ClassDef _ _ _ (_ :: .FunctionDef _ a b _ _ _ sc _ _ _ :: _) _ _ _ _ _ _ _ => ⟨name, sn, n1, n2, Str.ofString name ++ ".__init__", a, b, sc⟩
  | _ => ⟨name, sn, n1, n2, "", ⟨[], [], none, [], [], none, []⟩, [], ⟨.function, [], false, false, []⟩⟩
def xcls : List PLS.XClsD := [mkX 2 "BadWay" "self" "word" "node"]
def tab : PLS.TabD := ⟨rows, [t__law_word], ["law"], [("MOST_BITS", 3), ("MOST_CARDS", 8), ("MOST_NODES", 24), ("MOST_STEPS", 100), ("MOST_TURNS", 6)], ["inputs", "written", "first_row", "is_sound", "sound_table", "ends_surely", "mean_turns", "mean_shuffles", "shows_sound", "sight_chance", "first_leak", "first_wrong", "hand", "shuffles_passed"], ["all", "bool", "dict", "int", "isinstance", "len", "list", "range", "set", "sorted", "str", "tuple"], ["BadInput", "BadWish", "BadCoins", "BadSights", "BadNumber"], 100000, xcls⟩
/-! the head -/
def ixs0 : List Nat := [14, 15, 16, 18, 21, 22, 23, 24, 25, 26, 27, 28, 29, 31, 33, 34, 65, 67, 69, 70, 71, 74, 75, 76, 84, 86, 88, 90, 93, 95]
def ixs1 : List Nat := [101, 102, 107, 109, 110, 113]
def ixs : List Nat := ixs0 ++ ixs1
def fn : List He.DefD := ixs.map mkD
def loose0 : List PySem.Str := ["DeckError", "BadWay", "BadWish", "BadInput", "BadSights", "BadCoins", "BadNumber", "TooMany", "MOST_BITS", "MOST_CARDS", "MOST_NODES", "MOST_ORDERS", "is_number", "are_kinds", "is_order", "is_rising", "is_move", "is_shuffle", "is_turn", "is_lay", "is_node", "card_count", "wrong_of", "is_way", "need_way", "inputs_of", "inputs", "need_input", "row_of", "first_row"]
def loose1 : List PySem.Str := ["moved", "is_wish", "need_wish", "is_open", "seen", "laid", "common", "ratio", "plus", "minus", "times", "over", "total", "greater", "first_table", "packed", "turned_about", "shuffled", "sight_chance_of", "sighted", "sights_of", "MOST_PLACES", "lots_of", "are_alike", "is_right_end", "steps_from", "turns_from", "may_be", "places_of", "may_end"]
def loose2 : List PySem.Str := ["is_sound", "order_of", "sound_table", "is_entry", "is_place", "shows_sound", "ends_surely", "MOST_STEPS", "need_coins", "hand", "shuffles_passed", "MOST_ROWS", "MOST_TURNS", "spread", "turned", "known_only", "first_here", "need_sights", "chance_of", "sight_chance", "all_sights", "need_turns", "lots_for", "first_leak", "ends_here", "is_wrong", "first_wrong", "whole_sights", "best_guess", "chain_of"]
def loose3 : List PySem.Str := ["is_sure", "mean_of", "solved", "over_any", "mean_turns", "mean_shuffles", "order_text", "kinds_text", "node_text", "written", "_law_taken", "_law_pick", "_law_alike", "_law_word"]
def loose : List PySem.Str := loose0 ++ loose1 ++ loose2 ++ loose3
def fnT : List He.DefD := [112].map mkD
end Row
end

section
set_option linter.all false
set_option maxRecDepth 100000
set_option maxHeartbeats 0
namespace Row
open PL PN
abbrev pr : Prog := tab.prog
def bod : Ss := r_law.d.body
def cx (call : String → List SV → Res (RV × List OV)) : Ctx := ⟨fun g => (pr.get g).map (·.io), call, fun g => pr.tolds.lookup g, 100000⟩
def c0 : Ctx := cx fun _ _ => .stuck
def ρ0 (x : D) : Env := [some (.d x), none, none, none, none, none, none, none, none, none, none, none]
def ρ4 (x : D) : Env := match execSs c0 (takeS 4 bod) (ρ0 x) with
  | .ok (_, ρ) => ρ
  | _ => []
def pickE : E := match dropS 4 bod with
  | .cons (.asgT _ (.call _ (.cons _ (.cons e .nil)))) _ => e
  | _ => .var 0
def things : List D := match evalE c0 pickE (ρ4 .non) with
  | .ok (.f (.l xs), _) => xs
  | _ => []
def ρ5 (x : D) (r : List D) (t : D) : Env := match t with
  | .tup [a, b] => (((ρ4 x).set 1 (some (.w (.l r)))).set 6 (some (.d a))).set 7 (some (.d b))
  | _ => []
theorem len_things : things.length = 9 := by kernel_rfl
theorem pre (call) (x : D) : execSs (cx call) (takeS 4 bod) (ρ0 x) = .ok (.nx, ρ4 x) := by kernel_rfl
theorem step5 (call) (x t : D) (r : List D) (a b : D) (ht : t = .tup [a, b]) (e : call "_law_pick" [.w (.l [x, .int 0, .int 21009, .int 0]), .d (.lst things)] = .ok (.v t, [.l r])) :
    execSs (cx call) (takeS 1 (dropS 4 bod)) (ρ4 x) = .ok (.nx, ρ5 x r t) := by
  have q : execSs (cx call) (takeS 1 (dropS 4 bod)) (ρ4 x) = (((((call "_law_pick" [.w (.l [x, .int 0, .int 21009, .int 0]), .d (.lst things)]).bind fun (r, os) => (ofO (backTo [true, false] [.r 1, .v (.lst things)] os (ρ4 x))).bind fun ρ2 => match r with
      | .v d => .ok (AV.v d, ρ2)
      | .f x => .ok (.f x, ρ2)).bind fun (x, ρ1) => takeR ρ1 x).bind fun (d, ρ2) => (ofO (tgSet (.many [6, 7]) d ρ2)).bind fun ρ3 => .ok (Fl.nx, ρ3)).bind fun (f, ρ1) => match f with
    | .nx => .ok (.nx, ρ1)
    | .rt x => .ok (.rt x, ρ1)) := by kernel_rfl
  rw [q, e, ht]
  kernel_rfl
def restOk (x : D) (r : List D) (t : D) : Prop := (execSs (cx (callF pr 100000 59)) (dropS 1 (dropS 4 bod)) (ρ5 x r t)).bind (fun (fl, ρ) => (ofO (outs [false] ρ)).bind fun os => match fl with
        | .nx => .ok (RV.v .non, os)
        | .rt r => .ok (r, os)) = .ok (.v (.bl true), [])
theorem rest0 (x : D) (r : List D) : restOk x r (things.getD 0 .non) := by unfold restOk; kernel_rfl
theorem rest1 (x : D) (r : List D) : restOk x r (things.getD 1 .non) := by unfold restOk; kernel_rfl
theorem rest2 (x : D) (r : List D) : restOk x r (things.getD 2 .non) := by unfold restOk; kernel_rfl
theorem rest3 (x : D) (r : List D) : restOk x r (things.getD 3 .non) := by unfold restOk; kernel_rfl
theorem rest4 (x : D) (r : List D) : restOk x r (things.getD 4 .non) := by unfold restOk; kernel_rfl
theorem rest5 (x : D) (r : List D) : restOk x r (things.getD 5 .non) := by unfold restOk; kernel_rfl
theorem rest6 (x : D) (r : List D) : restOk x r (things.getD 6 .non) := by unfold restOk; kernel_rfl
theorem rest7 (x : D) (r : List D) : restOk x r (things.getD 7 .non) := by unfold restOk; kernel_rfl
theorem rest8 (x : D) (r : List D) : restOk x r (things.getD 8 .non) := by unfold restOk; kernel_rfl
theorem rest_all (x : D) (r : List D) : ∀ i : Nat, i < 9 → restOk x r (things.getD i .non)
  | 0, _ => rest0 x r
  | 1, _ => rest1 x r
  | 2, _ => rest2 x r
  | 3, _ => rest3 x r
  | 4, _ => rest4 x r
  | 5, _ => rest5 x r
  | 6, _ => rest6 x r
  | 7, _ => rest7 x r
  | 8, _ => rest8 x r
  | n + 9, h => by omega
theorem pair_all : things.all (fun t => match t with
  | .tup [_, _] => true
  | _ => false) = true := by kernel_rfl
theorem ans : ∀ ns : List Int, ns.length ≤ 63 → PL.callF tab.prog tab.wf 60 "law" [.d (.lst (ns.map .int))] = .ok (.v (.bl true), []) := fun ns _ => by
  have hT : pr.get "_law_taken" = some dTaken := by kernel_rfl
  have hP : pr.get "_law_pick" = some dPick := by kernel_rfl
  have hz : (⟨0, 21009, 0⟩ : St).ok := ⟨by decide, by decide⟩
  have hm : (0 : Int) < things.length := by rw [len_things]; decide
  obtain ⟨b0, b1⟩ := tk_lt (ns := ns) (z := ⟨0, 21009, 0⟩) hm
  rw [len_things] at b1
  have hi : (tk ns ⟨0, 21009, 0⟩ things.length).1.toNat < 9 := by
    rw [len_things] at *
    omega
  have hx : things[(tk ns ⟨0, 21009, 0⟩ things.length).1.toNat]? = some (things.getD (tk ns ⟨0, 21009, 0⟩ things.length).1.toNat .non) := by
    have hl : (tk ns ⟨0, 21009, 0⟩ things.length).1.toNat < things.length := by rw [len_things]; rw [len_things] at hi; exact hi
    rw [List.getD_eq_getElem?_getD, List.getElem?_eq_getElem hl]; rfl
  have e := pick_call (P := pr) (wf := 100000) (n := 57) hT hP ns ⟨0, 21009, 0⟩ things (by rw [len_things]; decide) (by rw [len_things]; decide) hz hx
  generalize (tk ns ⟨0, 21009, 0⟩ things.length).1.toNat = i at hi hx e
  generalize rowV ns (tk ns ⟨0, 21009, 0⟩ things.length).2 = r at e
  have hp : ∃ a b, things.getD i .non = .tup [a, b] := by
    have hm : things.getD i .non ∈ things := List.mem_of_getElem? hx
    have q := List.all_eq_true.mp pair_all _ hm
    split at q
    · exact ⟨_, _, ‹_›⟩
    · cases q
  obtain ⟨a, b, hab⟩ := hp
  have s5 := step5 (callF pr 100000 59) (.lst (ns.map .int)) _ r a b hab e
  have lg : pr.get "law" = some r_law.d := by kernel_rfl
  show callF pr 100000 60 "law" _ = _
  rw [callF, lg]
  show (if okArgs r_law.d.io _ = true then _ else _) = _
  rw [if_pos (show okArgs r_law.d.io [.d (.lst (ns.map .int))] = true from rfl)]
  show Res.bind (execSs (cx (callF pr 100000 59)) bod (ρ0 (.lst (ns.map .int)))) _ = _
  rw [skip (pre _ _), skip s5]
  exact rest_all _ _ i hi
end Row
end

section
set_option Elab.async false
set_option linter.all false
set_option maxRecDepth 100000
set_option maxHeartbeats 0
namespace Row
open PySem PySem.Spec PyProof.Rows L2
theorem chk : PLS.Told tab fn fnT := ⟨by kernel_rfl, by kernel_rfl, by kernel_rfl, by kernel_rfl⟩
abbrev R : PySem.W.OpenRow := PySem.W.OpenLaw.row PySem.Challenge.rw_silentdecks_k09_ways_refused
abbrev fa : List He.Fa := tab.fa
def as0 : List Addr := [3, 6, 4, 24, 46, 58, 70, 82, 94, 106, 127, 136, 141, 146, 151, 158, 163, 168, 173, 180, 187, 192, 199, 206, 211, 218, 225, 232, 239, 244, 249, 256, 261, 266, 273, 280, 287, 294, 301, 308]
def as1 : List Addr := [315, 322, 329, 334, 339, 344, 351, 356, 361, 366, 371, 376, 383, 388, 393, 398, 405, 410, 417, 422, 429, 434, 439, 444, 451, 456, 463, 470, 477, 484, 489, 496, 501, 508, 515, 520, 527, 532, 537, 542]
def as2 : List Addr := [549, 556, 561, 566, 573, 578, 585, 590, 597, 604, 611, 616, 621, 626, 631, 638, 645, 650, 657, 662, 0, 23, 45, 57, 69, 81, 93, 105, 126, 135, 140, 145, 150, 157, 162, 167, 172, 179, 186, 191]
def as3 : List Addr := [198, 205, 210, 217, 224, 231, 238, 243, 248, 255, 260, 265, 272, 279, 286, 293, 300, 307, 314, 321, 328, 333, 338, 343, 350, 355, 360, 365, 370, 375, 382, 387, 392, 397, 404, 409, 416, 421, 428, 433]
def as4 : List Addr := [438, 443, 450, 455, 462, 469, 476, 483, 488, 495, 500, 507, 514, 519, 526, 531, 536, 541, 548, 555, 560, 565, 572, 577, 584, 589, 596, 603, 610, 615, 620, 625, 630, 637, 644, 649, 656, 661, 22, 25]
def as5 : List Addr := [43, 44, 56, 68, 80, 92, 104, 124, 125, 130, 131, 132, 133, 134, 137, 138, 139, 142, 143, 144, 147, 148, 149, 152, 153, 154, 155, 156, 159, 160, 161, 164, 165, 166, 169, 170, 171, 174, 175, 176]
def as6 : List Addr := [177, 178, 181, 182, 183, 184, 185, 188, 189, 190, 193, 194, 195, 196, 197, 200, 201, 202, 203, 204, 207, 208, 209, 212, 213, 214, 215, 216, 219, 220, 221, 222, 223, 226, 227, 228, 229, 230, 233, 234]
def as7 : List Addr := [235, 236, 237, 240, 241, 242, 245, 246, 247, 250, 251, 252, 253, 254, 257, 258, 259, 262, 263, 264, 267, 268, 269, 270, 271, 274, 275, 276, 277, 278, 281, 282, 283, 284, 285, 288, 289, 290, 291, 292]
def as8 : List Addr := [295, 296, 297, 298, 299, 302, 303, 304, 305, 306, 309, 310, 311, 312, 313, 316, 317, 318, 319, 320, 323, 324, 325, 326, 327, 330, 331, 332, 335, 336, 337, 340, 341, 342, 345, 346, 347, 348, 349, 352]
def as9 : List Addr := [353, 354, 357, 358, 359, 362, 363, 364, 367, 368, 369, 372, 373, 374, 377, 378, 379, 380, 381, 384, 385, 386, 389, 390, 391, 394, 395, 396, 399, 400, 401, 402, 403, 406, 407, 408, 411, 412, 413, 414]
def as10 : List Addr := [415, 418, 419, 420, 423, 424, 425, 426, 427, 430, 431, 432, 435, 436, 437, 440, 441, 442, 445, 446, 447, 448, 449, 452, 453, 454, 457, 458, 459, 460, 461, 464, 465, 466, 467, 468, 471, 472, 473, 474]
def as11 : List Addr := [475, 478, 479, 480, 481, 482, 485, 486, 487, 490, 491, 492, 493, 494, 497, 498, 499, 502, 503, 504, 505, 506, 509, 510, 511, 512, 513, 516, 517, 518, 521, 522, 523, 524, 525, 528, 529, 530, 533, 534]
def as12 : List Addr := [535, 538, 539, 540, 543, 544, 545, 546, 547, 550, 551, 552, 553, 554, 557, 558, 559, 562, 563, 564, 567, 568, 569, 570, 571, 574, 575, 576, 579, 580, 581, 582, 583, 586, 587, 588, 591, 592, 593, 594]
def as13 : List Addr := [595, 598, 599, 600, 601, 602, 605, 606, 607, 608, 609, 612, 613, 614, 617, 618, 619, 622, 623, 624, 627, 628, 629, 632, 633, 634, 635, 636, 639, 640, 641, 642, 643, 646, 647, 648, 651, 652, 653, 654]
def as14 : List Addr := [655, 658, 659, 660, 42, 31, 123, 112, 2]
def asK : List Addr := as0 ++ as1 ++ as2 ++ as3 ++ as4 ++ as5 ++ as6 ++ as7 ++ as8 ++ as9 ++ as10 ++ as11 ++ as12 ++ as13 ++ as14
abbrev hk : PySem.W.Hook := PLS.hookZ asK fa (fn ++ fnT) tab.tf (tab.ex prog) tab.xcls
end Row
open PySem PySem.W PySem.Calls PyProof.Rows
theorem PySem.Challenge.cw_silentdecks_k09_ways_refused_holds : PySem.Challenge.rw_silentdecks_k09_ways_refused.Holds := by
  w_on; o_law
  o_head Row.hk
  case hw => w_witness2
  case hc =>
    refine LamX.walk_ofTsE (l := PySem.Challenge.rw_silentdecks_k09_ways_refused) (n := 63) (k := 3 * 60) (x := Str.ofString "_law_script") (CX := fun w => L2.CX (PySem.Challenge.rw_silentdecks_k09_ways_refused).prog w) rfl (by decide) (by kernel_rfl) ⟨rfl, by decide, by decide⟩ ?F ?G
    case G => exact fun _ _ _ _ _ ⟨_, _, _, _, _, _, _, _, _, _, _, _, z⟩ => z
    case F =>
      intro w mg fa h Y hns hmg0
      have hmg : mg ("law" : PySem.Str) = some (.ref fa) := by
        have e : (HandSHeadRun.topDef (OpenLaw.row PySem.Challenge.rw_silentdecks_k09_ways_refused).prog 113).name = ("law" : PySem.Str) := by kernel_rfl
        rw [← e]
        exact hmg0
      exact PLS.join (T := Row.tab) (n := 60) Row.chk (by kernel_rfl) (by decide) (by kernel_rfl) Row.ans w mg fa h Y hns hmg
end
